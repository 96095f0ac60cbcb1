import PyProof.Rows.All
import Wide.All
import OpenK.AllK
import Wide.FinOn
import KE.KSortTup
import PyProof.EvalArms
import PyProof.DictDisplay
import PyProof.WalksMore
import PyProof.StrWalks
import PyProof.ExcInit
import PyProof.ExcClass3
import PyProof.ExcArgs
import KE.KRevSl
import KE.KIsAll
import KE.KDictList
import PyProof.Rows.SumAny
import PyProof.Conv_int_bool
import PyProof.Rows.RuleN_abs
import PyProof.IsiPairs
import KE.KTryMore
import KE.KDictOf
import PySem.Challenge.RW_nz0053_01
set_option maxHeartbeats 2000000
set_option maxRecDepth 100000
set_option linter.all false
set_option Elab.async false
set_option genSizeOf false
set_option genInjectivity false
set_option genCtorIdx false
set_option compiler.extract_closed false
set_option bootstrap.genMatcherCode false
namespace Mine
@[elab_as_elim]theorem rwg{zi:Sort u}{a b:zi}{M:zi->Prop}(h:a=b)(x:M b):M a:=h▸x
@[elab_as_elim]theorem Jf{zi:Sort u}{a b:zi}{M:zi->Prop}(h:b=a)(x:M b):M a:=h▸x
end Mine
set_option hygiene false in
local macro_rules
  | `(tactic| rewrite [$t:term]) => `(tactic| first | refine Mine.rwg $t ?_ | refine Mine.rwg ($t ..) ?_ | fail)
local macro_rules
  | `(tactic| show $t) => `(tactic| refine (?_ : $t))
set_option hygiene false in
local macro_rules
  | `(tactic| cases $h:ident) => `(tactic| first
    | subst $h:ident
    | (revert $h:ident; refine fun (a : ?a = ?a) => ?_; clear a)
    | exact absurd $h:ident (by decide)
    | (injection $h:ident; done)
    | (injection $h:ident with a b; cases a; cases b)
    | (injection $h:ident with a; cases a)
    | cases ($h))
set_option tactic.hygienic false
namespace Mine
open Bool renaming false->JT,true->JQ,false_eq_true->Iv,or_eq_true->Iq,not_eq_true'->Ii,false_ne_true->IZ,and_eq_true->IW,or_eq_false_iff->IS,noConfusion->Hr,false_or->Gj,and_eq_true_iff->Gh,or_true->GZ,and_false->GS,true_and->G4,not_true->FC,eq_iff_iff->Ee,not_false->EX
open Option renaming some->JS,map_eq_some_iff->JB,eq_none_iff_forall_ne_some->J1,filter_some->IE,isSome_iff_exists->I2,isNone_iff_eq_none->Ht,bind_some->HM,bind_eq_some_iff->H2,filter_eq_some_iff->GG
open PySem renaming wpAny_bind->JR,Value->JM,wpAny_pure->JL,Shared->JI,wpAny_holding->JE,wpAny_mono->JC,wpAny_standAt->J3,Addr->J0,Around->Ip,Heap->Im,DictEntry->Ig,wpAny_newObj_type->Hj,wpAny_getItem_list_slice->HA,wpAny_field->H5,wpAny_loadPart_at->Gw,wpAny_rule->Gq,wpAny_call_entry->Gn,codeAny_call_builtin->Gg,wpAny_setField->GV,wpAny_call->GP,wpAny_loadPart->GO,Fin->Fw,wpAny_notOrdered_dict->Fh,wpAny_letTemporaryGo->Fd,wpAt_of_wpAny->FN,wpAny_isSubtype_exc->FK,assign_Name->F',codeAny_mono->Ez,wpAny_typeOf->Ey,wpAny_alloc->Ei,wpAt_bind->Ed,call->E_,Tok->EU
open List renaming mem_singleton->JP,length_append->JO,length_map->JN,mem_cons->JJ,mem_cons_self->JH,getElem?_map->JF,getElem?_eq_some_iff->J9,mem_of_getElem?->J5,mem_cons_of_mem->J2,append_assoc->J',all_eq_true->Iz,contains_cons->Iy,map_cons->It,length_singleton->Il,getElem?_eq_getElem->Ic,filter_cons->Ib,nodup_cons->Ia,getElem?_append_right->I_,getD_eq_getElem?_getD->IY,append_nil->IV,mem_reverse->IM,forall_mem_cons->IL,getElem?_set_self->II,mem_map->IG,range->IF,length_cons->ID,length_set->IB,mem_append->I8,length_reverse->I5,contains_iff_mem->I3,map_append->I0,size_toArray->Hx,mem_range->Hw,getElem?_append_left->Hu,lookup_cons->Hp,getElem?_set_ne->Hl,length_nil->Hh,mem_append_right->He,mem_filter->Hd,length_range->Hc,nodup_nil->HZ,length_eq_zero_iff->HX,map_map->HT,length_filter_le->HP,mem_append_left->HN,map_nil->HJ,casesOn->HI,map_congr_left->HG,nil_append->H9,length_mapIdx->H7,length->H6,reverse_cons->Gy,getElem?_eq_none->Gs,map_reverse->Gp,length_drop->Gm,length_take->Gk,getElem?_mapIdx->Gi,forIn_cons->Ge,findIdx?_cons->GW,filterMap->GR,forIn_nil->GQ,flatMap_cons->G9,not_mem_nil->G1,isEmpty_iff->Fz,getElem?_reverse->Fp,dropLast_eq_take->Fi,zipWith_nil_left->Fg,mem_map_of_mem->FP,getElem?_range->FI,map_drop->FA,map_take->F9,getElem_range->F8,any_eq_false->F0,set_set->Ew,findIdx?_map->Et,map_inj_left->Ep,any_eq_true->El,mem_flatMap->Ek,drop_length->Ej,head?_drop->Ec,filter_nil->Eb,replicate->Ea,take_zero->EY,drop_drop->EW
open Nat renaming le_refl->JK,beq->JG,eq_of_beq_eq_true->JD,le_of_ble_eq_true->JA,le_trans->J4,ble_eq_true_of_le->Iw,blt->Io,succ_le_succ->Ik,le_of_not_lt->IU,ne_of_lt->IP,lt_of_lt_of_le->IJ,lt_of_not_le->I6,zero_le->I4,le_add_right->Hy,mod_lt->Hv,lt_succ_self->Hq,ble->Ho,sub_self->Hn,lt_trans->Hm,le_succ_of_le->Hb,beq_refl->Gz,ne_of_gt->G_,not_lt->GX,lt_of_le_of_lt->GL,add_sub_cancel->GK,lt_succ_of_lt->GF,le_succ->GC,le_of_succ_le->GA,add_sub_cancel_left->Fu,le_of_lt->Fs,mul_le_mul_right->FV,add_le_add->FU,succ_ne_self->Em,le_antisymm->Eg
open Array renaming length_toList->J8,getElem?_toList->Iu,mem_toList_iff->Ie,size_setIfInBounds->HF,toArray_toList->Gf,getElem?_size->Gb,toList_append->Ga,getElem?_eq_some_iff->GU,getElem?_eq_getElem->GI,toList_push->GB,mk->G2,find?_toList->F6,toList_inj->Eo
open PySem.Heap renaming get?_push_size->J7,get?_push_of_some->J6,get?_update_self->Ih,SameBut->IC,lt_size->I7,get?_update_other->HU,size_push->Gx,get?_none_of_le->F_,get?_push_ne->Er,MadeExcOf->EZ
open PySem.Heap.SameBut renaming update->Ir
open PySem.Str renaming ofString->Ij
open PySem.Challenge renaming rw_nz0053_01->IX
open Prod.mk renaming inj->IQ
open PySem.Obj renaming mapFields->I9,mapSeq->H_,data_mapFields->HV,isFreed_of_fields->HR,putNameByArray->H8,putName_eq->H'
open Nat.succ renaming inj->I1
open PySem.Value renaming type->I',none->Hz,ref->HS,int->HK,isStrOf_shape->HH,builtin->G8
open PySem.F renaming slot_list_getitem->Hs,plainAttrs_dict->Hi,excBase_ValueError->Hf,plainAttrs_list->HY,slot_list_getattribute->HW,slot_dict_get->HQ,slot_dict_itemiterator_iter->HD,args_tuple_add_2->HC,entry_tuple_add->H3,slot_tuple_add->Gv,slot_dict_setitem->GH,slot_list_append->G7,slot_list_extend->G6,slot_dict_update->G5,slot_str_getitem->G3,slot_dict_items->G0,slot_list_index->G',entry_dict_get->Ft,slot_list_pop->Fo,type_dict_get->Fn,slot_dict_pop->Fm,slot_int_rmul->Fj,slot_tuple_lt->Ff,store_object->FZ
open Ne renaming symm->Hk
open PySem.Builtin.Str renaming strSliceIndices->Hg
open PySem.W.Looks renaming of_pure->Ha,ld->Eu
open Int renaming toNat_natCast->HO,natAbs_natCast->GJ,eq_ofNat_of_zero_le->Fy,le_trans->Fq,natCast_nonneg->F5
open PySem.W renaming kas_sort->HL,ownOf->FF
open PySem.NameKind renaming free->HE,cell->FG
open PySem.Builtin.List renaming listTooLong->HB
open PySem.Builtin.Range renaming rangeSize->H4,small->FO
open PyProof.Rows renaming wpAny_operate'->H0,pow_int->FY,lt_int->FJ
open PySem.Builtin.Tuple renaming tupleCompareSizes->Gu
open PySem.PyData renaming eqv->Gl,keyHash->Fe,eqvAll->FH,eqvAll->FE
open ForInStep renaming yield->Gd
open PySem.W.Fast renaming tw4187177175401517315->GY
open PySem.SeqAt renaming shaped->GN
open PySem.Calls renaming spliced_nil->GD
open PySem.Builtin.Dict renaming updateFrom->Fv
open PySem.Keeper renaming machine->Fc,frame->F4
open PySem.Around renaming frames_deeper->Fb,under_plainId->FW
open PySem.EntryCells renaming newEntry->FQ
open PySem.Code renaming quiet_builtin->F7
open PySem.DictEntry renaming refKey->En,key->EV
open PySem.Builtin.BaseException renaming bexcPut->Eh
open List.cons renaming injEq->Ef
open Array.mk renaming inj->ET
open PySem.SeqRoads2.EqGives renaming str->ES
theorem yc{zi:Type u}{x:Option zi}{a b:zi}(h:x=JS a)(k:x=JS b):a=b:=Option.some.inj (h.symm.trans k)
structure C3(A B zP:Prop):Prop where
 a:A
 b:B
 c:zP
structure C4(A B zP D:Prop):Prop where
 a:A
 b:B
 c:zP
 d:D
structure C5(A B zP D E:Prop):Prop where
 a:A
 b:B
 c:zP
 d:D
 e:E
structure C6(A B zP D E F:Prop):Prop where
 a:A
 b:B
 c:zP
 d:D
 e:E
 f:F
structure C7(A B zP D E F G:Prop):Prop where
 a:A
 b:B
 c:zP
 d:D
 e:E
 f:F
 g:G
structure C8(A B zP D E F G H:Prop):Prop where
 a:A
 b:B
 c:zP
 d:D
 e:E
 f:F
 g:G
 h:H
structure U9(A B zP D E F G H I vA K L:Prop):Prop where
 a:A
 b:B
 c:zP
 d:D
 e:E
 f:F
 g:G
 h:H
 i:I
 j:vA
 k:K
 l:L
inductive X2{zi xJ:Type}(P:zi->xJ->Prop):Prop|mk(a:zi)(b:xJ):P a b->X2 P
inductive X3{zi xJ yM:Type}(P:zi->xJ->yM->Prop):Prop|mk(a:zi)(b:xJ)(c:yM):P a b c->X3 P
inductive X4{zi xJ yM qN:Type}(P:zi->xJ->yM->qN->Prop):Prop|mk(a:zi)(b:xJ)(c:yM)(d:qN):P a b c d->X4 P
inductive X5{zi xJ yM qN UE:Type}(P:zi->xJ->yM->qN->UE->Prop):Prop|mk(a:zi)(b:xJ)(c:yM)(d:qN)(e:UE):P a b c d e->X5 P
open PySem PySem.W PySem.Calls PyProof.Rows
noncomputable section
noncomputable def kW(ok:Thread->Bool)(VJ:SharedT->Thread->Option (SharedT×Thread)):Nat->SharedT->Thread->Option SharedT|0,zo,zY=>none|n+1,s,t=>match through t with|JQ=>JS s|JT=>match ok t with|JT=>none|JQ=>match VJ s t with|JS r=>kW ok VJ n r.1 r.2|none=>none
theorem Vj{tb:String->Option Builtin}{p:Program}{w:World}{dB:Nat}{ann:Option JM}:∀{n:Nat}{s s':SharedT}{t:Thread},kW (stepOk dB ann) (stepT (denote tb) p w) n s t=JS s'->topRun tb p w dB ann n s.abs t=JS s'.abs|0,zo,zY,zH,h=>by cases h|n+1,s,s',t,h=>by unfold kW at h;unfold topRun;cases he:through t with|true=>rw[he]at h;cases h;rfl|false=>rw[he]at h;cases hk:stepOk dB ann t with|false=>rw[hk]at h;cases h|true=>rw[hk]at h;cases hs:stepT (denote tb) p w s t with|none=>rw[hs]at h;cases h|some r=>rw[hs]at h;rw[stepT_spec hs];exact Vj h
noncomputable def X_:BT->Nat->List Obj->BT|t,zo,[]=>t|t,n,o::r=>X_ (t.ins n o) (n+1) r
noncomputable def k8(P:Params):BT:=X_ .nil 0 (boot_heap P).objs.toList
theorem SK(P:Params):absHeap (k8 P) 11 (boot_heap P).life=boot_heap P:=by kernel_rfl
theorem SO(P:Params):C3 ((boot_heap P).objs.size=11) ((boot_heap P).nsMap mainGlobals "__annotations__"=JS (.ref 6)) ((boot_heap P).isNs mainGlobals=JQ):=⟨by kernel_rfl,by kernel_rfl,by kernel_rfl⟩
noncomputable def gw(p:Program)(P:Params)(s:JI):Bool:=staticsOk (importedModules p.main.body) (boot_heap P) s.heap&&namesBound p s.heap&&gensDone s&&laidKept (boot_heap P) s.heap
noncomputable def jH(t:BT)(n a:Nat):Option Obj:=match Io a n with|JQ=>alive ((t.get a).getD default)|JT=>none
theorem Ph(t:BT)(n:Nat)(life:Life):(absHeap t n life).get?=jH t n:=funext λa=>by unfold jH;cases q:Io a n with|false=>exact abs_get_none λh=>Hr (q.symm.trans (Iw h))|true=>unfold Heap.get?;rewrite[absHeap_at];rw[if_pos (show a<n from JA q)];show(match JS ((t.get a).getD default)with|JS ⟨_,_,.freed,_⟩=>none|o=>o)=alive ((t.get a).getD default);generalize(t.get a).getD default=o;obtain⟨c,d,dt,sl⟩:=o;cases dt<;>rfl
theorem O1{p q:Program}{loose:List Str}{Xt:JI->Bool}{zi:Type}{Yf:JI->zi}{Yt:SharedT->zi}{Ya:World->zi}{N:Nat}{g0:Bool}{row:String}(hY:∀s:SharedT,Yf s.abs=Yt s)(e:opening p=plainProg p.main.scope.names)(hN:Ho 600 N=JQ)(f:∀s,fenceModules? p s=JS s)(h:∀(w:World)(b:Bool)(os:OsState),(kW (stepOk 11 (JS (.ref 6))) (stepT (denote treeTable) p (w.withFollow row b)) N ⟨k8 w.params,11,(boot_heap w.params).life,G2 [],boot_drawn,boot_toks,os⟩ (topStub p)).map (λs=>(gw p w.params s.abs,openSeen q loose (importedModules p.main.body) Xt g0 s.abs,Yt s))=JS (JQ,openGood q loose,Ya (w.withFollow row b))):LeftO p q loose Xt Yf Ya N g0:=λw=>by
 obtain⟨yR,h0,h1⟩:=JB.mp (boot_open (N:=N) e hN f w);obtain⟨hp,g,d,k,os⟩:=yR;cases h1;unfold openEnds;rw[h0];have hw:=World.withFollow_self w row;have h2:=h w (w.params.followText row) os;rw[hw]at h2;obtain⟨zd,h3,h4⟩:=JB.mp h2;have h5:=Vj h3;obtain⟨b1,b2,b3⟩:=SO w.params;have h6:(SharedT.mk (k8 w.params) 11 (boot_heap w.params).life (G2 []) boot_drawn boot_toks os).abs=⟨boot_heap w.params,G2 [],boot_drawn,boot_toks,os⟩:=by unfold SharedT.abs;rw[SK]
 rw[h6]at h5;show(topFrom treeTable p w N ⟨boot_heap w.params,G2 [],boot_drawn,boot_toks,os⟩).map _=_;unfold topFrom;rw[show(((boot_heap w.params).isNs mainGlobals)&&(G2 ([]:List GenState)).size==0)=JQ by rw[b3];rfl];show((topRun treeTable p w (boot_heap w.params).objs.size ((boot_heap w.params).nsMap mainGlobals "__annotations__") N ⟨boot_heap w.params,G2 [],boot_drawn,boot_toks,os⟩ (topStub p)).bind _).map _=_;rewrite[b1];rewrite[b2];rw[h5];show(match gw p w.params zd.abs with|JQ=>JS zd.abs|JT=>none).map _=_;rw[<-hY]at h4;injection h4 with h7 h8;rw[h7];exact congrArg JS h8
end
open PySem PySem.W PySem.Calls PyProof.Rows
noncomputable abbrev pw:Program:=PySem.Challenge.pw_nz0053_01
noncomputable def s1(i:Nat):Stmt:=pw.main.body.getD i (.Pass default)
noncomputable def s2(i j:Nat):Stmt:=match s1 i with|.ClassDef zo zY zH b ya xk vR uV uB s6 kL=>b.getD j (.Pass default)|s=>s
noncomputable def t_:Stmt->List Stmt|.FunctionDef zo zY b zH ya xk vR uV uB s6=>b|_=>[]
noncomputable def Vh:Stmt->Arguments|.FunctionDef zo a zY zH ya xk vR uV uB s6=>a|_=>default
noncomputable def tB:Stmt->Scope|.FunctionDef zo zY zH ya xk vR sc uV uB s6=>sc|_=>default
noncomputable def Lm:Stmt->Str|.FunctionDef n zo zY zH ya xk vR uV uB s6=>n|_=>default
noncomputable def kv(s:String)(t:Nat):JM:=.str (Ij s) t
noncomputable def ke(P:Params)(s:String)(t:Nat)(v:JM):Ig:=⟨Fe P (Ij s),kv s t,v⟩
noncomputable def kd(c:JM)(l:List Ig)(ep:Nat):Obj:=⟨c,none,.dict l.toArray ep,#[]⟩
noncomputable def kt(l:List JM)(ep:Nat):Obj:=⟨.type "tuple",none,.seq l.toArray ep,#[]⟩
noncomputable def uc(st:Stmt)(q:String)(dv mv cd:JM):FuncData:={name:=Lm st,qualname:=Ij q,params:=Vh st,body:=.stmts (t_ st),scope:=tB st,globals:=3,closure:=[],defaults:=dv,kwdefaults:=.none,pyModule:=mv,code:=cd}
noncomputable def kf(st:Stmt)(q:String)(dv mv cd:JM):Obj:=⟨.type "function",none,.func (uc st q dv mv cd),#[]⟩
noncomputable def kl(n:String)(bases mro:List JM)(ns:J0)(subs:List JM)(sl:List (Option JM)):Obj:=⟨.type "type",none,.cls {name:=Ij n,bases:=bases,mro:=mro,ns:=ns,qualname:=Ij n,subclasses:=subs},sl.toArray⟩
noncomputable def gX:List (String×Nat×JM):=[("BasicObject",1151,.none),("Object",1153,(kv "BasicObject" 1154)),("Module",1156,(kv "Object" 1157)),("Class",1159,(kv "Module" 1160)),("Kernel",1162,.none),("Comparable",1164,.none),("Enumerable",1166,.none),("NilClass",1168,(kv "Object" 1169)),("TrueClass",1171,(kv "Object" 1172)),("FalseClass",1174,(kv "Object" 1175)),("Numeric",1177,(kv "Object" 1178)),("Integer",1180,(kv "Numeric" 1181)),("String",1183,(kv "Object" 1184)),("Symbol",1186,(kv "Object" 1187)),("Array",1189,(kv "Object" 1190)),("Hash",1192,(kv "Object" 1193)),("Range",1195,(kv "Object" 1196)),("Proc",1198,(kv "Object" 1199)),("Fiber",1201,(kv "Object" 1202)),("Exception",1204,(kv "Object" 1205)),("ScriptError",1207,(kv "Exception" 1208)),("NotImplementedError",1210,(kv "ScriptError" 1211)),("SystemStackError",1213,(kv "Exception" 1214)),("StandardError",1216,(kv "Exception" 1217)),("ArgumentError",1219,(kv "StandardError" 1220)),("UncaughtThrowError",1222,(kv "ArgumentError" 1223)),("FiberError",1225,(kv "StandardError" 1226)),("IndexError",1228,(kv "StandardError" 1229)),("KeyError",1231,(kv "IndexError" 1232)),("StopIteration",1234,(kv "IndexError" 1235)),("LocalJumpError",1237,(kv "StandardError" 1238)),("NameError",1240,(kv "StandardError" 1241)),("NoMethodError",1243,(kv "NameError" 1244)),("NoMatchingPatternError",1246,(kv "StandardError" 1247)),("NoMatchingPatternKeyError",1249,(kv "NoMatchingPatternError" 1250)),("RangeError",1251,(kv "StandardError" 1252)),("RuntimeError",1253,(kv "StandardError" 1254)),("FrozenError",1255,(kv "RuntimeError" 1256)),("TypeError",1257,(kv "StandardError" 1258)),("ZeroDivisionError",1259,(kv "StandardError" 1260))]
noncomputable def dM:List (String×Nat×JM):=[("Object",1268,(.ref 637)),("Numeric",1270,(.ref 638)),("String",1272,(.ref 639)),("Symbol",1274,(.ref 640)),("Array",1276,(.ref 641)),("Hash",1278,(.ref 642)),("Range",1280,(.ref 643))]
noncomputable def rU(P:Params)(l:List (String×Nat×JM)):List Ig:=l.map λe=>ke P e.1 e.2.1 e.2.2
noncomputable def KL(P:Params):Frag:=[(2,kd .none [] 0),(3,kd (.type "dict") [ke P "__name__" 165 (kv "law_nz0053_01" 1646),ke P "__doc__" 166 .none,ke P "__package__" 167 .none,ke P "__loader__" 168 (.builtin "__main__.__loader__#opaque"),ke P "__spec__" 169 .none,ke P "__annotations__" 170 (.ref 6),ke P "__builtins__" 171 (.ref 4),ke P "__file__" 173 (kv "/claim/cut.py" 172),ke P "__cached__" 174 .none,ke P "_wall" 193 (.ref 21),ke P "SIMPLE_ESCAPES" 229 (.ref 22),ke P "OPERATORS" 257 (.ref 23),ke P "DEEPEST_KEY" 259 (.int 12 258),ke P "Thing" 294 (.ref 40),ke P "Text" 322 (.ref 62),ke P "ListThing" 349 (.ref 82),ke P "TableThing" 401 (.ref 120),ke P "RangeThing" 432 (.ref 140),ke P "ProcThing" 475 (.ref 161),ke P "ErrorThing" 503 (.ref 181),ke P "FiberThing" 533 (.ref 201),ke P "ModuleThing" 580 (.ref 228),ke P "Entry" 633 (.ref 256),ke P "sort_of" 640 (.ref 267),ke P "same" 649 (.ref 274),ke P "code_of" 655 (.ref 280),ke P "is_word" 663 (.ref 287),ke P "is_label" 670 (.ref 294),ke P "is_plain_symbol" 677 (.ref 301),ke P "full_name" 684 (.ref 308),ke P "show_letter" 694 (.ref 315),ke P "show_text" 700 (.ref 320),ke P "show_symbol" 707 (.ref 327),ke P "show_pair" 716 (.ref 334),ke P "show_range" 726 (.ref 341),ke P "show_thing" 732 (.ref 346),ke P "show_error" 743 (.ref 353),ke P "show" 753 (.ref 361),ke P "has_thing" 764 (.ref 368),ke P "own_line" 773 (.ref 375),ke P "ahead_count" 779 (.ref 380),ke P "made_line" 785 (.ref 385),ke P "line_of" 793 (.ref 392),ke P "PRIVATE_NAMES" 798 (.ref 393),ke P "PRIVATE_KERNEL" 812 (.ref 394),ke P "GivenEntry" 828 (.ref 404),ke P "sight_of" 836 (.ref 413),ke P "given_entry" 853 (.ref 420),ke P "given_names" 859 (.ref 425),ke P "entry_at" 869 (.ref 432),ke P "first_entry" 880 (.ref 439),ke P "find" 889 (.ref 446),ke P "find_behind" 902 (.ref 453),ke P "raise_version" 909 (.ref 460),ke P "need_unfrozen" 917 (.ref 467),ke P "own_module" 926 (.ref 474),ke P "define" 935 (.ref 481),ke P "place_entry" 945 (.ref 488),ke P "kind_word" 952 (.ref 495),ke P "need_entry" 962 (.ref 502),ke P "undefine" 971 (.ref 509),ke P "remove" 981 (.ref 516),ke P "copied" 989 (.ref 523),ke P "alias" 1000 (.ref 530),ke P "set_sight" 1012 (.ref 537),ke P "need_mixin" 1022 (.ref 544),ke P "include" 1031 (.ref 551),ke P "prepend" 1040 (.ref 558),ke P "extend" 1049 (.ref 565),ke P "is_a" 1058 (.ref 572),ke P "own_names" 1064 (.ref 577),ke P "names_of" 1078 (.ref 584),ke P "respond" 1089 (.ref 591),ke P "GemError" 1119 (.ref 609),ke P "Raised" 1144 (.ref 629),ke P "MODULES" 1150 (.ref 632),ke P "BUILTINS" 1267 (.ref 633),ke P "MIXED" 1289 (.ref 636),ke P "UNMADE" 1296 (.ref 644),ke P "World" 1645 (.ref 899),ke P "_law_model" 1653 (.ref 908),ke P "_law_paths" 1668 (.ref 915),ke P "_law_line" 1674 (.ref 920),ke P "_law_found" 1685 (.ref 927),ke P "_law_mixed" 1691 (.ref 932),ke P "_law_deed" 1708 (.ref 939),ke P "_law_done" 1726 (.ref 946),ke P "_law_plain" 1733 (.ref 953),ke P "_law_shown" 1741 (.ref 960),ke P "_law_row" 1752 (.ref 967),ke P "_law_asked_right" 1758 (.ref 972),ke P "_law_names" 1764 (.ref 977),ke P "_law_kinds_right" 1775 (.ref 984),ke P "_law_begun" 1781 (.ref 989),ke P "law" 1787 (.ref 994)] 95),(40,kl "Thing" [(.type "object")] [(.ref 40),(.type "object")] 39 [(.ref 62),(.ref 82),(.ref 120),(.ref 140),(.ref 161),(.ref 181),(.ref 201),(.ref 228)] [none,none,JS (kv "Thing" 260),JS (kv "Thing" 268),JS (.builtin "object.__new__"),JS (.bool JQ)]),(62,kl "Text" [(.ref 40)] [(.ref 62),(.ref 40),(.type "object")] 61 [] [JS (.ref 45),none,JS (kv "Text" 295),JS (kv "Text" 303),JS (.builtin "object.__new__"),JS (.bool JQ)]),(82,kl "ListThing" [(.ref 40)] [(.ref 82),(.ref 40),(.type "object")] 81 [] [JS (.ref 65),none,JS (kv "ListThing" 323),JS (kv "ListThing" 331),JS (.builtin "object.__new__"),JS (.bool JQ)]),(120,kl "TableThing" [(.ref 40)] [(.ref 120),(.ref 40),(.type "object")] 119 [] [JS (.ref 85),none,JS (kv "TableThing" 350),JS (kv "TableThing" 358),JS (.builtin "object.__new__"),JS (.bool JQ)]),(140,kl "RangeThing" [(.ref 40)] [(.ref 140),(.ref 40),(.type "object")] 139 [] [JS (.ref 123),none,JS (kv "RangeThing" 402),JS (kv "RangeThing" 410),JS (.builtin "object.__new__"),JS (.bool JQ)]),(161,kl "ProcThing" [(.ref 40)] [(.ref 161),(.ref 40),(.type "object")] 160 [] [JS (.ref 143),none,JS (kv "ProcThing" 433),JS (kv "ProcThing" 441),JS (.builtin "object.__new__"),JS (.bool JQ)]),(181,kl "ErrorThing" [(.ref 40)] [(.ref 181),(.ref 40),(.type "object")] 180 [] [JS (.ref 164),none,JS (kv "ErrorThing" 476),JS (kv "ErrorThing" 484),JS (.builtin "object.__new__"),JS (.bool JQ)]),(201,kl "FiberThing" [(.ref 40)] [(.ref 201),(.ref 40),(.type "object")] 200 [] [JS (.ref 184),none,JS (kv "FiberThing" 504),JS (kv "FiberThing" 512),JS (.builtin "object.__new__"),JS (.bool JQ)]),(228,kl "ModuleThing" [(.ref 40)] [(.ref 228),(.ref 40),(.type "object")] 227 [] [JS (.ref 204),none,JS (kv "ModuleThing" 534),JS (kv "ModuleThing" 542),JS (.builtin "object.__new__"),JS (.bool JQ)]),(256,kl "Entry" [(.type "object")] [(.ref 256),(.type "object")] 255 [(.ref 404)] [none,none,JS (kv "Entry" 581),JS (kv "Entry" 589),JS (.builtin "object.__new__"),JS (.bool JQ)]),(404,kl "GivenEntry" [(.ref 256)] [(.ref 404),(.ref 256),(.type "object")] 403 [] [JS (.ref 395),none,JS (kv "GivenEntry" 813),JS (kv "GivenEntry" 821),JS (.builtin "object.__new__"),JS (.bool JQ)]),(609,kl "GemError" [(.type "ValueError")] [(.ref 609),(.type "ValueError"),(.type "Exception"),(.type "BaseException"),(.type "object")] 608 [(.ref 629)] [JS (.ref 592),none,JS (kv "GemError" 1092),JS (kv "GemError" 1100),JS (.builtin "ValueError.__new__"),JS (.bool JQ)]),(629,kl "Raised" [(.ref 609)] [(.ref 629),(.ref 609),(.type "ValueError"),(.type "Exception"),(.type "BaseException"),(.type "object")] 628 [] [JS (.ref 613),none,JS (kv "Raised" 1120),JS (kv "Raised" 1128),JS (.builtin "ValueError.__new__"),JS (.bool JQ)]),(899,kl "World" [(.type "object")] [(.ref 899),(.type "object")] 898 [] [none,none,JS (kv "World" 1297),JS (kv "World" 1305),JS (.builtin "object.__new__"),JS (.bool JQ)]),(39,kd (.type "dict") [ke P "__module__" 267 (kv "gemrows.things" 194),ke P "__firstlineno__" 271 (.int 8 270),ke P "__init__" 280 (.ref 37),ke P "__static_attributes__" 287 (.ref 38),ke P "__dict__" 289 (.ref 41),ke P "__weakref__" 291 (.ref 42),ke P "__doc__" 292 .none] 4),(61,kd (.type "dict") [ke P "__module__" 302 (kv "gemrows.things" 194),ke P "__firstlineno__" 306 (.int 17 305),ke P "__init__" 317 (.ref 59),ke P "__static_attributes__" 319 (.ref 60),ke P "__doc__" 320 .none] 2),(81,kd (.type "dict") [ke P "__module__" 330 (kv "gemrows.things" 194),ke P "__firstlineno__" 334 (.int 22 333),ke P "__init__" 344 (.ref 79),ke P "__static_attributes__" 346 (.ref 80),ke P "__doc__" 347 .none] 2),(119,kd (.type "dict") [ke P "__module__" 357 (kv "gemrows.things" 194),ke P "__firstlineno__" 361 (.int 27 360),ke P "__init__" 370 (.ref 98),ke P "put" 381 (.ref 105),ke P "row" 389 (.ref 112),ke P "pairs" 395 (.ref 117),ke P "__static_attributes__" 398 (.ref 118),ke P "__doc__" 399 .none] 2),(139,kd (.type "dict") [ke P "__module__" 409 (kv "gemrows.things" 194),ke P "__firstlineno__" 413 (.int 47 412),ke P "__init__" 425 (.ref 137),ke P "__static_attributes__" 429 (.ref 138),ke P "__doc__" 430 .none] 2),(160,kd (.type "dict") [ke P "__module__" 440 (kv "gemrows.things" 194),ke P "__firstlineno__" 444 (.int 54 443),ke P "__init__" 462 (.ref 158),ke P "__static_attributes__" 472 (.ref 159),ke P "__doc__" 473 .none] 2),(180,kd (.type "dict") [ke P "__module__" 483 (kv "gemrows.things" 194),ke P "__firstlineno__" 487 (.int 67 486),ke P "__init__" 497 (.ref 178),ke P "__static_attributes__" 500 (.ref 179),ke P "__doc__" 501 .none] 2),(200,kd (.type "dict") [ke P "__module__" 511 (kv "gemrows.things" 194),ke P "__firstlineno__" 515 (.int 73 514),ke P "__init__" 525 (.ref 198),ke P "__static_attributes__" 530 (.ref 199),ke P "__doc__" 531 .none] 2),(227,kd (.type "dict") [ke P "__module__" 541 (kv "gemrows.things" 194),ke P "__firstlineno__" 545 (.int 81 544),ke P "__init__" 558 (.ref 218),ke P "is_own" 565 (.ref 225),ke P "__static_attributes__" 577 (.ref 226),ke P "__doc__" 578 .none] 2),(255,kd (.type "dict") [ke P "__module__" 588 (kv "gemrows.things" 194),ke P "__firstlineno__" 592 (.int 99 591),ke P "__init__" 606 (.ref 245),ke P "moved" 617 (.ref 253),ke P "__static_attributes__" 626 (.ref 254),ke P "__dict__" 628 (.ref 257),ke P "__weakref__" 630 (.ref 258),ke P "__doc__" 631 .none] 4),(403,kd (.type "dict") [ke P "__module__" 820 (kv "gemrows.lines" 754),ke P "__firstlineno__" 824 (.int 255 823),ke P "__static_attributes__" 825 (.ref 402),ke P "__doc__" 826 .none] 2),(608,kd (.type "dict") [ke P "__module__" 1099 (kv "gemrows.errors" 1090),ke P "__firstlineno__" 1103 (.int 399 1102),ke P "__init__" 1112 (.ref 606),ke P "__static_attributes__" 1114 (.ref 607),ke P "__weakref__" 1116 (.ref 610),ke P "__doc__" 1117 .none] 3),(628,kd (.type "dict") [ke P "__module__" 1127 (kv "gemrows.errors" 1090),ke P "__firstlineno__" 1131 (.int 404 1130),ke P "__init__" 1139 (.ref 626),ke P "__static_attributes__" 1141 (.ref 627),ke P "__doc__" 1142 .none] 2),(898,kd (.type "dict") [ke P "__module__" 1304 (kv "gemrows.world" 1145),ke P "__firstlineno__" 1308 (.int 414 1307),ke P "__init__" 1321 (.ref 659),ke P "tick" 1328 (.ref 666),ke P "write" 1336 (.ref 673),ke P "number" 1343 (.ref 680),ke P "next_ident" 1350 (.ref 687),ke P "ident" 1359 (.ref 694),ke P "builtin" 1368 (.ref 701),ke P "make_builtin" 1374 (.ref 706),ke P "give_own" 1382 (.ref 713),ke P "new_module" 1397 (.ref 721),ke P "class_of" 1405 (.ref 728),ke P "own_of" 1413 (.ref 735),ke P "own_behind" 1422 (.ref 742),ke P "root_of" 1430 (.ref 749),ke P "real_class" 1438 (.ref 756),ke P "text" 1446 (.ref 763),ke P "list_of" 1454 (.ref 770),ke P "table_of" 1462 (.ref 777),ke P "key_of" 1470 (.ref 784),ke P "range_of" 1480 (.ref 791),ke P "proc" 1497 (.ref 798),ke P "thing" 1507 (.ref 805),ke P "is_error_class" 1515 (.ref 812),ke P "spread" 1523 (.ref 819),ke P "error" 1532 (.ref 826),ke P "fail" 1541 (.ref 833),ke P "need_thawed" 1549 (.ref 840),ke P "set_field" 1559 (.ref 847),ke P "describe" 1567 (.ref 854),ke P "own_constant" 1576 (.ref 861),ke P "find_constant" 1585 (.ref 868),ke P "constant" 1594 (.ref 875),ke P "find_in" 1603 (.ref 882),ke P "constant_in" 1612 (.ref 889),ke P "set_constant" 1622 (.ref 896),ke P "__static_attributes__" 1638 (.ref 897),ke P "__dict__" 1640 (.ref 900),ke P "__weakref__" 1642 (.ref 901),ke P "__doc__" 1643 .none] 4),(37,kf (s2 5 0) "Thing.__init__" .none (kv "gemrows.things" 194) (.ref 36)),(59,kf (s2 6 0) "Text.__init__" (.ref 52) (kv "gemrows.things" 194) (.ref 58)),(79,kf (s2 7 0) "ListThing.__init__" (.ref 72) (kv "gemrows.things" 194) (.ref 78)),(98,kf (s2 8 0) "TableThing.__init__" .none (kv "gemrows.things" 194) (.ref 97)),(117,kf (s2 8 3) "TableThing.pairs" .none (kv "gemrows.things" 194) (.ref 116)),(137,kf (s2 9 0) "RangeThing.__init__" (.ref 130) (kv "gemrows.things" 194) (.ref 136)),(158,kf (s2 10 0) "ProcThing.__init__" (.ref 151) (kv "gemrows.things" 194) (.ref 157)),(178,kf (s2 11 0) "ErrorThing.__init__" (.ref 171) (kv "gemrows.things" 194) (.ref 177)),(198,kf (s2 12 0) "FiberThing.__init__" (.ref 191) (kv "gemrows.things" 194) (.ref 197)),(218,kf (s2 13 0) "ModuleThing.__init__" (.ref 211) (kv "gemrows.things" 194) (.ref 217)),(225,kf (s2 13 1) "ModuleThing.is_own" .none (kv "gemrows.things" 194) (.ref 224)),(245,kf (s2 14 0) "Entry.__init__" (.ref 238) (kv "gemrows.things" 194) (.ref 244)),(253,kf (s2 14 1) "Entry.moved" (.ref 246) (kv "gemrows.things" 194) (.ref 252)),(267,kf (s1 15) "sort_of" .none (kv "gemrows.things" 194) (.ref 266)),(274,kf (s1 16) "same" .none (kv "gemrows.things" 194) (.ref 273)),(308,kf (s1 21) "full_name" .none (kv "gemrows.things" 194) (.ref 307)),(346,kf (s1 27) "show_thing" .none (kv "gemrows.things" 194) (.ref 345)),(361,kf (s1 29) "show" (.ref 354) (kv "gemrows.things" 194) (.ref 360)),(368,kf (s1 31) "has_thing" .none (kv "gemrows.lines" 754) (.ref 367)),(375,kf (s1 32) "own_line" .none (kv "gemrows.lines" 754) (.ref 374)),(380,kf (s1 33) "ahead_count" .none (kv "gemrows.lines" 754) (.ref 379)),(385,kf (s1 34) "made_line" .none (kv "gemrows.lines" 754) (.ref 384)),(392,kf (s1 35) "line_of" .none (kv "gemrows.lines" 754) (.ref 391)),(420,kf (s1 40) "given_entry" .none (kv "gemrows.lines" 754) (.ref 419)),(432,kf (s1 42) "entry_at" .none (kv "gemrows.lines" 754) (.ref 431)),(439,kf (s1 43) "first_entry" .none (kv "gemrows.lines" 754) (.ref 438)),(446,kf (s1 44) "find" .none (kv "gemrows.lines" 754) (.ref 445)),(453,kf (s1 45) "find_behind" .none (kv "gemrows.lines" 754) (.ref 452)),(460,kf (s1 46) "raise_version" .none (kv "gemrows.lines" 754) (.ref 459)),(467,kf (s1 47) "need_unfrozen" .none (kv "gemrows.lines" 754) (.ref 466)),(474,kf (s1 48) "own_module" .none (kv "gemrows.lines" 754) (.ref 473)),(481,kf (s1 49) "define" .none (kv "gemrows.lines" 754) (.ref 480)),(488,kf (s1 50) "place_entry" .none (kv "gemrows.lines" 754) (.ref 487)),(495,kf (s1 51) "kind_word" .none (kv "gemrows.lines" 754) (.ref 494)),(502,kf (s1 52) "need_entry" .none (kv "gemrows.lines" 754) (.ref 501)),(509,kf (s1 53) "undefine" .none (kv "gemrows.lines" 754) (.ref 508)),(516,kf (s1 54) "remove" .none (kv "gemrows.lines" 754) (.ref 515)),(523,kf (s1 55) "copied" .none (kv "gemrows.lines" 754) (.ref 522)),(530,kf (s1 56) "alias" .none (kv "gemrows.lines" 754) (.ref 529)),(537,kf (s1 57) "set_sight" .none (kv "gemrows.lines" 754) (.ref 536)),(544,kf (s1 58) "need_mixin" .none (kv "gemrows.lines" 754) (.ref 543)),(551,kf (s1 59) "include" .none (kv "gemrows.lines" 754) (.ref 550)),(558,kf (s1 60) "prepend" .none (kv "gemrows.lines" 754) (.ref 557)),(565,kf (s1 61) "extend" .none (kv "gemrows.lines" 754) (.ref 564)),(572,kf (s1 62) "is_a" .none (kv "gemrows.lines" 754) (.ref 571)),(577,kf (s1 63) "own_names" .none (kv "gemrows.lines" 754) (.ref 576)),(584,kf (s1 64) "names_of" .none (kv "gemrows.lines" 754) (.ref 583)),(591,kf (s1 65) "respond" .none (kv "gemrows.lines" 754) (.ref 590)),(606,kf (s2 67 0) "GemError.__init__" (.ref 599) (kv "gemrows.errors" 1090) (.ref 605)),(626,kf (s2 68 0) "Raised.__init__" .none (kv "gemrows.errors" 1090) (.ref 625)),(659,kf (s2 74 0) "World.__init__" (.ref 652) (kv "gemrows.world" 1145) (.ref 658)),(680,kf (s2 74 3) "World.number" .none (kv "gemrows.world" 1145) (.ref 679)),(694,kf (s2 74 5) "World.ident" .none (kv "gemrows.world" 1145) (.ref 693)),(701,kf (s2 74 6) "World.builtin" .none (kv "gemrows.world" 1145) (.ref 700)),(706,kf (s2 74 7) "World.make_builtin" .none (kv "gemrows.world" 1145) (.ref 705)),(713,kf (s2 74 8) "World.give_own" .none (kv "gemrows.world" 1145) (.ref 712)),(721,kf (s2 74 9) "World.new_module" (.ref 714) (kv "gemrows.world" 1145) (.ref 720)),(728,kf (s2 74 10) "World.class_of" .none (kv "gemrows.world" 1145) (.ref 727)),(735,kf (s2 74 11) "World.own_of" .none (kv "gemrows.world" 1145) (.ref 734)),(742,kf (s2 74 12) "World.own_behind" .none (kv "gemrows.world" 1145) (.ref 741)),(749,kf (s2 74 13) "World.root_of" .none (kv "gemrows.world" 1145) (.ref 748)),(763,kf (s2 74 15) "World.text" .none (kv "gemrows.world" 1145) (.ref 762)),(805,kf (s2 74 21) "World.thing" .none (kv "gemrows.world" 1145) (.ref 804)),(812,kf (s2 74 22) "World.is_error_class" .none (kv "gemrows.world" 1145) (.ref 811)),(826,kf (s2 74 24) "World.error" .none (kv "gemrows.world" 1145) (.ref 825)),(833,kf (s2 74 25) "World.fail" .none (kv "gemrows.world" 1145) (.ref 832)),(908,kf (s1 76) "_law_model" .none (kv "law_nz0053_01" 1646) (.ref 907)),(915,kf (s1 77) "_law_paths" .none (kv "law_nz0053_01" 1646) (.ref 914)),(920,kf (s1 78) "_law_line" .none (kv "law_nz0053_01" 1646) (.ref 919)),(927,kf (s1 79) "_law_found" .none (kv "law_nz0053_01" 1646) (.ref 926)),(932,kf (s1 80) "_law_mixed" .none (kv "law_nz0053_01" 1646) (.ref 931)),(939,kf (s1 81) "_law_deed" .none (kv "law_nz0053_01" 1646) (.ref 938)),(946,kf (s1 82) "_law_done" .none (kv "law_nz0053_01" 1646) (.ref 945)),(953,kf (s1 83) "_law_plain" .none (kv "law_nz0053_01" 1646) (.ref 952)),(960,kf (s1 84) "_law_shown" .none (kv "law_nz0053_01" 1646) (.ref 959)),(967,kf (s1 85) "_law_row" .none (kv "law_nz0053_01" 1646) (.ref 966)),(972,kf (s1 86) "_law_asked_right" .none (kv "law_nz0053_01" 1646) (.ref 971)),(977,kf (s1 87) "_law_names" .none (kv "law_nz0053_01" 1646) (.ref 976)),(984,kf (s1 88) "_law_kinds_right" .none (kv "law_nz0053_01" 1646) (.ref 983)),(989,kf (s1 89) "_law_begun" .none (kv "law_nz0053_01" 1646) (.ref 988)),(994,kf (s1 90) "law" .none (kv "law_nz0053_01" 1646) (.ref 993)),(52,kt [(kv "" 307)] 0),(72,kt [.none] 0),(130,kt [.none,.none,(.bool JT)] 0),(151,kt [.none,.none,.none,.none,(.ref 150),.none,.none,(.bool JT),.none] 0),(171,kt [.none] 0),(191,kt [.none] 0),(211,kt [.none,(.bool JT),.none,.none] 0),(238,kt [.none,.none,(kv "public" 593)] 0),(246,kt [.none] 0),(354,kt [(.int 6 744)] 0),(599,kt [(kv "" 1104)] 0),(652,kt [.none,.none,(.int 20000 1309)] 0),(714,kt [.none,.none,.none] 0),(632,kt [(kv "Kernel" 1147),(kv "Comparable" 1148),(kv "Enumerable" 1149)] 0),(633,kd (.type "dict") (rU P gX) 40),(636,kd (.type "dict") (rU P dM) 7),(637,kt [(kv "Kernel" 1269)] 0),(638,kt [(kv "Comparable" 1271)] 0),(639,kt [(kv "Comparable" 1273)] 0),(640,kt [(kv "Comparable" 1275)] 0),(641,kt [(kv "Enumerable" 1277)] 0),(642,kt [(kv "Enumerable" 1279)] 0),(643,kt [(kv "Enumerable" 1281)] 0),(644,kt [(kv "NilClass" 1290),(kv "TrueClass" 1291),(kv "FalseClass" 1292),(kv "Integer" 1293),(kv "Numeric" 1294),(kv "Symbol" 1295)] 0)]
noncomputable def KA:List Nat:=[2,3,40,62,82,120,140,161,181,201,228,256,404,609,629,899,39,61,81,119,139,160,180,200,227,255,403,608,628,898,37,59,79,98,117,137,158,178,198,218,225,245,253,267,274,308,346,361,368,375,380,385,392,420,432,439,446,453,460,467,474,481,488,495,502,509,516,523,530,537,544,551,558,565,572,577,584,591,606,626,659,680,694,701,706,713,721,728,735,742,749,763,805,812,826,833,908,915,920,927,932,939,946,953,960,967,972,977,984,989,994,52,72,130,151,171,191,211,238,246,354,599,652,714,632,633,636,637,638,639,640,641,642,643,644]
noncomputable def oJ:List (Nat×String):=[(36,"Thing.__init__"),(58,"Text.__init__"),(177,"ErrorThing.__init__"),(217,"ModuleThing.__init__"),(224,"ModuleThing.is_own"),(244,"Entry.__init__"),(252,"Entry.moved"),(266,"sort_of"),(273,"same"),(307,"full_name"),(345,"show_thing"),(360,"show"),(367,"has_thing"),(374,"own_line"),(379,"ahead_count"),(384,"made_line"),(391,"line_of"),(419,"given_entry"),(431,"entry_at"),(438,"first_entry"),(445,"find"),(452,"find_behind"),(459,"raise_version"),(466,"need_unfrozen"),(473,"own_module"),(480,"define"),(487,"place_entry"),(494,"kind_word"),(501,"need_entry"),(508,"undefine"),(515,"remove"),(522,"copied"),(529,"alias"),(536,"set_sight"),(543,"need_mixin"),(550,"include"),(557,"prepend"),(564,"extend"),(571,"is_a"),(576,"own_names"),(583,"names_of"),(590,"respond"),(605,"GemError.__init__"),(625,"Raised.__init__"),(658,"World.__init__"),(679,"World.number"),(700,"World.builtin"),(705,"World.make_builtin"),(712,"World.give_own"),(720,"World.new_module"),(727,"World.class_of"),(734,"World.own_of"),(741,"World.own_behind"),(748,"World.root_of"),(762,"World.text"),(804,"World.thing"),(811,"World.is_error_class"),(825,"World.error"),(832,"World.fail"),(907,"_law_model"),(914,"_law_paths"),(919,"_law_line"),(926,"_law_found"),(931,"_law_mixed"),(938,"_law_deed"),(945,"_law_done"),(952,"_law_plain"),(959,"_law_shown"),(966,"_law_row"),(971,"_law_asked_right"),(976,"_law_names"),(983,"_law_kinds_right"),(988,"_law_begun"),(993,"law")]
noncomputable def jt(g:J0->Option Obj)(a:Nat):Option Str:=match g a with|JS ⟨zo,zY,Data.fields vs,zH⟩=>(match(vs[1]?:Option JM)with|JS (.str q _)=>JS q|_=>none)|_=>none
noncomputable def rg(h:Im)(a:Nat):Option Str:=jt h.get? a
noncomputable abbrev kE(g:J0->Option Obj):List (Option Obj)×(List (Option Str)×Bool):=(KA.map g,oJ.map (λp=>jt g p.1),(g sysModules).isSome)
noncomputable abbrev gf(s:JI):List (Option Obj)×(List (Option Str)×Bool):=kE s.heap.get?
noncomputable abbrev mQ(w:World):List (Option Obj)×(List (Option Str)×Bool):=((KL w.params).map (λp=>JS p.2),oJ.map (λp=>JS (Ij p.2)),JQ)
noncomputable def q0:Program:={pw with main:={pw.main with body:=[s1 90]}}
noncomputable def pJ:List Str:=["_wall","SIMPLE_ESCAPES","OPERATORS","DEEPEST_KEY","Thing","Text","ListThing","TableThing","RangeThing","ProcThing","ErrorThing","FiberThing","ModuleThing","Entry","sort_of","same","code_of","is_word","is_label","is_plain_symbol","full_name","show_letter","show_text","show_symbol","show_pair","show_range","show_thing","show_error","show","has_thing","own_line","ahead_count","made_line","line_of","PRIVATE_NAMES","PRIVATE_KERNEL","GivenEntry","sight_of","given_entry","given_names","entry_at","first_entry","find","find_behind","raise_version","need_unfrozen","own_module","define","place_entry","kind_word","need_entry","undefine","remove","copied","alias","set_sight","need_mixin","include","prepend","extend","is_a","own_names","names_of","respond","GemError","Raised","MODULES","BUILTINS","MIXED","UNMADE","World","_law_model","_law_paths","_law_line","_law_found","_law_mixed","_law_deed","_law_done","_law_plain","_law_shown","_law_row","_law_asked_right","_law_names","_law_kinds_right","_law_begun"].map Ij
noncomputable def Xs:List Nat:=[17,18,114,24,106,104,47,62,59,161,0,21,11,42,19,174,80,94,41,34,61,35,89,63,14,115,111,158,197,163,202,88,30,99,49,107,98,110,191,164,57,100,55,72,38,69,134,105,71,36,120,162,128,179,184,76,183,170,156,124,157,147,182,176,169,185,136,141,138]
open PySem PySem.W PySem.Calls PyProof.Rows
noncomputable abbrev Vq(w:World)(b:Bool)(os:OsState):Option SharedT:=kW (Fast.tw6613529449190102663 11 (JS (.ref 6))) (Fast.tw10156331382660048174 (Fast.tw11892475500146522536 Fast.tw14364793385576792824) pw (w.withFollow "special-get-raises" b)) 15790 ⟨k8 w.params,11,(boot_heap w.params).life,G2 [],boot_drawn,boot_toks,os⟩ (topStub pw)
theorem Lw(w:World)(os:OsState):(Vq w JT os).map (λs=>(gw pw w.params s.abs,GY q0 pJ (importedModules pw.main.body) (λzz=>JQ) JQ s.abs,kE (jH s.tree s.n)))=JS (JQ,openGood q0 pJ,mQ (w.withFollow "special-get-raises" JT)):=by kernel_rfl
theorem Lu(w:World)(os:OsState):(Vq w JQ os).map (λs=>(gw pw w.params s.abs,GY q0 pJ (importedModules pw.main.body) (λzz=>JQ) JQ s.abs,kE (jH s.tree s.n)))=JS (JQ,openGood q0 pJ,mQ (w.withFollow "special-get-raises" JQ)):=by kernel_rfl
theorem Ms:opening pw=plainProg pw.main.scope.names:=by kernel_rfl
theorem Mw:∀s,fenceModules? pw s=JS s:=λs=>by kernel_rfl
theorem Mv:(chainsOk q0&&opensWell pw&&(frees IX.row.toRowW&&IX.row.toRowW.within.isEmpty))=JQ:=by kernel_rfl
set_option maxHeartbeats 20000000 in theorem Mr:IX.wellSaid=JQ:=by
 rw[Fast.te9446332074065402090];delta Fast.tw9446332074065402090;show(_&&_)=JQ;repeat' with_reducible refine look_both ?_ ?_
 .delta Fast.tw17960256430627541270;show(_&&_)=JQ;repeat' with_reducible refine look_both ?_ ?_
  .delta Fast.tw2436336058641802641;show(_&&_)=JQ;repeat' with_reducible refine look_both ?_ ?_
   .delta Fast.tw12908688711261696721;show(_&&_)=JQ;repeat' with_reducible refine look_both ?_ ?_
    all_goals decide+kernel
   all_goals decide+kernel
  all_goals decide+kernel
 all_goals decide+kernel
theorem left:LeftO pw q0 pJ (λzz=>JQ) gf mQ 15790 JQ:=O1 (row:="special-get-raises") (λs=>congrArg kE (Ph s.tree s.n s.life)) Ms rfl Mw λw b os=>by
 rewrite[Fast.te6613529449190102663];rewrite[Fast.te10156331382660048174];rewrite[Fast.te11892475500146522536];rewrite[Fast.te14364793385576792824];rw[Fast.te4187177175401517315];cases b;.exact Lw w os
 .exact Lu w os
open PySem PySem.W PySem.Calls PyProof.Rows
set_option genCtorIdx true in inductive Bi where|len|sum|isinstance|abs|sorted|nQ|dZ|dR|dY|zG|ft|m9|bw
set_option genCtorIdx true in inductive Ty where|bool|int|str|list|dict|bx|range|enum
set_option genInjectivity true in inductive V where|none|bool(b:Bool)|int(i:Int)|str(s:List Nat)|tup(vs:List V)|ref(n:Nat)|fn(a:Nat)|cl(a:Nat)|bi(b:Bi)|ty(t:Ty)
set_option genInjectivity true in inductive O where|list(xs:List V)|dict(es:List (List Nat×V))|v7(es:List (List Nat×V))|qE(xs:List V)|inst(c:Nat)(fs:List (Nat×V))|exc(c:Nat)(t:Bool)(fs:List (Nat×V))
noncomputable def V.ctorIdx(x:V):Nat:=@V.casesOn (λ_=>Nat) x 0 (λzz=>1) (λzz=>2) (λzz=>3) (λzz=>4) (λzz=>5) (λzz=>6) (λzz=>7) (λzz=>8) (λzz=>9)
noncomputable def O.ctorIdx(x:O):Nat:=@O.casesOn (λ_=>Nat) x (λzz=>0) (λzz=>1) (λzz=>2) (λzz=>3) (λzz zz=>4) (λzz zz zz=>5)
noncomputable abbrev St:=List O
noncomputable abbrev Loc:=List (Nat×V)
inductive R(zi:Type)where|ok(a:zi)(J:St)|exc(e:V)(J:St)
inductive Fl where|next|ret(v:V)
inductive SR where|ok(f:Fl)(L:Loc)(J:St)|exc(e:V)(L:Loc)(J:St)
noncomputable def lk(x:Nat):Loc->Option V|[]=>none|(y,v)::r=>match JG x y with|JQ=>JS v|JT=>lk x r
noncomputable def st(x:Nat)(v:V):Loc->Loc|[]=>[(x,v)]|(y,w)::r=>match JG x y with|JQ=>(x,v)::r|JT=>(y,w)::st x v r
noncomputable def rm(x:Nat):Loc->Loc|[]=>[]|(y,w)::r=>match JG x y with|JQ=>rm x r|JT=>(y,w)::rm x r
set_option genCtorIdx true in inductive qL where|add|sub|mul|floordiv|mod|pow
set_option genCtorIdx true in inductive ry where|eq|ne|lt|is|yS|yQ|y9
set_option genCtorIdx true in inductive IK where|plain|range|enum|items
inductive M where|qh|none|bool(b:Bool)|int(i:Int)|str(s:List Nat)|neg(i:Nat)|loc(x:Nat)|zu(x:Nat)|nil|cons(e es:M)|kv(k v r:M)|tup(es:M)|lst(es:M)|wg(kvs:M)|attr(e:M)(x:Nat)|sub(e i:M)|qR(e i:M)|p0(e i:M)|oz(e:M)|wX(e:M)|call(f args:M)|zl(o:M)(x:Nat)(args:M)|bin(op:qL)(a b:M)|not(e:M)|cmp(op:ry)(a b:M)|and(es:M)|or(es:M)|ite(c a b:M)|comp(elt:M)(xs:List Nat)(k:IK)(it:M)(yd:M)
noncomputable def M.ctorIdx(x:M):Nat:=@M.casesOn (λ_=>Nat) x 0 1 (λzz=>2) (λzz=>3) (λzz=>4) (λzz=>5) (λzz=>6) (λzz=>7) 8 (λzz zz=>9) (λzz zz zz=>10) (λzz=>11) (λzz=>12) (λzz=>13) (λzz zz=>14) (λzz zz=>15) (λzz zz=>16) (λzz zz=>17) (λzz=>18) (λzz=>19) (λzz zz=>20) (λzz zz zz=>21) (λzz zz zz=>22) (λzz=>23) (λzz zz zz=>24) (λzz=>25) (λzz=>26) (λzz zz zz=>27) (λzz zz zz zz zz=>28)
inductive S where|qh|nil|cons(s r:S)|expr(e:M)|ret(e:M)|asg(x:Nat)(e:M)|yD(xs:List Nat)(e:M)|zC(o:M)(x:Nat)(e:M)|y7(o i:M)(e:M)|mO(o i o' i':M)(e:M)|qG(o:M)(x:Nat)(e:M)|cond(c:M)(a b:S)|while(c:M)(b:S)|for(xs:List Nat)(k:IK)(it:M)(b:S)|raise(e:M)|try(b:S)(x:Nat)(h:M)
structure FD where
 params:List Nat
 dflt:List V
 body:S
noncomputable def u5:Nat:=1000000
noncomputable def short{zi:Type}(l:List zi):Bool:=Ho l.length u5
noncomputable def small(i:Int):Bool:=Ho i.natAbs (2^60)
noncomputable def zR:List Nat->List Nat->Bool|[],[]=>JQ|a::r,b::t=>JG a b&&zR r t|zo,zY=>JT
noncomputable def zG(k:List Nat):List (List Nat×V)->Option V|[]=>none|(a,v)::r=>match zR k a with|JQ=>JS v|JT=>zG k r
noncomputable def dput(k:List Nat)(v:V):List (List Nat×V)->List (List Nat×V)|[]=>[(k,v)]|(a,w)::r=>match zR k a with|JQ=>(a,v)::r|JT=>(a,w)::dput k v r
noncomputable def sq(k:List Nat):List (List Nat×V)->List (List Nat×V)|[]=>[]|(a,w)::r=>match zR k a with|JQ=>r|JT=>(a,w)::sq k r
noncomputable abbrev u2(ps es:List (List Nat×V)):List (List Nat×V):=ps.foldl (λd p=>dput p.1 p.2 d) es
noncomputable def stores:List Nat->List V->Loc->Option Loc|[],[],L=>JS L|x::xs,v::vs,L=>stores xs vs (st x v L)|zo,zY,zH=>none
noncomputable def vP(xs:List Nat)(v:V)(L:Loc):Option Loc:=match xs,v with|[x],v=>JS (st x v L)|xs,.tup vs=>stores xs vs L|zo,zY=>none
noncomputable def uo(params:List Nat)(dflt args:List V):Option Loc:=if args.length<=params.length/\params.length<=args.length+dflt.length then JS (params.zip (args++dflt.drop (dflt.length-(params.length-args.length))))else none
noncomputable def dig:Nat->Nat->List Nat|0,zo=>[]|f+1,n=>match JG n 0 with|JQ=>[]|JT=>n%256::dig f (n/256)
noncomputable def c5:List Nat->Nat|[]=>0|d::r=>d+256*c5 r
theorem bz:∀(f n:Nat),n<256^f->c5 (dig f n)=n|0,n,h=>by simp at h;subst h;rfl|f+1,n,h=>by unfold dig;cases q:JG n 0 with|true=>exact(JD q).symm|false=>show n%256+256*c5 (dig f (n/256))=n;rw[bz f (n/256) (by rw[Nat.div_lt_iff_lt_mul (by decide)];rw[Nat.pow_succ]at h;exact h)];exact Nat.mod_add_div n 256
noncomputable def rQ:List Nat:=[0x656d616e,0x646c726f77,0x656c75646f6d,0x666c6573,0x646e756f66,0x656e6f,0x65756c6176,0x6c65646f6d,0x676e69796173,0x6e776f6e6b,0x7473657567,0x746e65726170,0x6b,0x746968,0x7468676973,0x6e,0x796177,0x7265626d756e,0x72656e776f,0x73646f6874656d,0x7972746e65,0x7373616c635f7369,0x646e69686562,0x65636e6174736e697369,0x6e776f,0x736b72616d,0x65726f6d,0x6e6978696d,0x64656564,0x73656d616e,0x646e65707061,0x6e656c,0x68746170,0x656e696c,0x65766974616e,0x74726f73,0x676e696874,0x6c6c616d73,0x6e69746c697562,0x65726568,0x64656b7361,0x6465686361747461,0x726574756f,0x676e6968745f736168,0x676e696854656c75646f4d,0x746e69,0x776f72,0x5f5f74696e695f5f,0x64656b73615f64726f77,0x746567,0x676e6974696177,0x65646973,0x302e,0x6563616c70,0x656e696c5f77616c5f,0x656c75646f6d5f77656e,0x657564,0x6c696166,0x7473726966,0x6567617373656d,0x656d616e5f6c6c7566,0x7470656b,0x74786574,0x79646f62,0x676e696854,0x6e69616863,0x726568746f,0x74615f7972746e65,0x656c75646f6d5f6e776f,0x706f70,0x727473,0x6e6f73616572,0x6e776f5f7369,0x646e756f665f77616c5f,0x6e6f69737265765f6573696172,0x74686769725f64656b73615f77616c5f,0x6564616d,0x746f6c73,0x746f6f72,0x6465646e65,0x646578696d,0x666f5f656e696c,0x656e696c5f6e776f,0x7972746e655f6465656e,0x646e6966,0x656d6173,0x70656564,0x746e756f63,0x646e65747865,0x736d61726170,0x666f5f73656d616e,0x676e6968747972657665,0x73656d616e5f77616c5f,0x6e657a6f72666e755f6465656e,0x6461656861,0x7972746e45,0x73646e617473,0x747069726373,0x6564756c657270,0x6e6f6973726576,0x666f5f7373616c63,0x646565645f77616c5f,0x656e6f645f77616c5f,0x74686769725f73646e696b5f77616c5f,0x746e656469,0x666f5f6e776f,0x6e657a6f7266,0x7365766974616e,0x7972746e456e65766947,0x110000,0x64616572,0x65646f63,0x6c6f6f62,0x6472616568,0x73646c656966,0x676e697473656e,0x73687461705f77616c5f,0x7972746e655f7473726966,0x736261,0x65646f6e,0x74736f6d,0x74786554,0x6564756c636e69,0x73746e65726170,0x79646165725f7369,0x676e696854726f727245,0x6e69616c705f77616c5f,0x6e6978696d5f6465656e,0x7265626d756e5f7473616c,0x7972746e655f6e65766967,0x615f7369,0x646c6f74,0x6d657469,0x444558494d,0x6465766f6d,0x72656e6e69,0x726f727265,0x7361696c61,0x7865646e69,0x646573696152,0x656e69666564,0x657461647075,0x65766f6d6572,0x646e6570657270,0x646e6f70736572,0x666f5f74726f73,0x656e696665646e75,0x6e776f5f65766967,0x64726f775f646e696b,0x676e696854636f7250,0x676e6968547473694c,0x74686769735f746573,0x676e69685465676e6152,0x676e696854656c626154,0x6e776f68735f77616c5f,0x7972746e655f6563616c70,0x74756f,0x6e69616d,0x6e696f6a,0x74636964,0x776f6873,0x6573756163,0x6e656b6174,0x7372696170,0x7374726170,0x646569706f63,0x656372756f73,0x73676e696874,0x53454c55444f4d,0x666f5f746f6f72,0x736c61626f6c67,0x534e49544c495542,0x776f725f77616c5f,0x656e696c5f6564616d,0x73746e6174736e6f63,0x646578696d5f77616c5f,0x646e696865625f6e776f,0x6c65646f6d5f77616c5f,0x6e756765625f77616c5f,0x746e6564695f7473616c,0x646e696865625f646e6966,0x746e756f635f6461656861,0x6e69746c6975625f656b616d,0x6e6f69737265765f74736e6f63,0x73746e6564695f6c6f626d7973,0x7373616c635f726f7272655f7369,0x65,0x646c6f,0x6d7573,0x77656e,0x79656b,0x646e696b,0x65657274,0x74736572,0x7473696c,0x646c726f57,0x65676e6172,0x736d657469,0x4544414d4e55,0x646574726f73,0x666f5f7468676973,0x726f7272456d6547,0x6164626d616c5f7369,0x65746172656d756e65,0x73656d616e5f6e776f,0x676e6968547265626946,0x676e6968745f776f6873,0x726f72724565756c6156,0x747570,0x77616c,0x636f7270,0x6b636974,0x6574697277,0x646165727073,0x666f5f79656b,0x666f5f7473696c,0x6e695f646e6966,0x6562697263736564,0x666f5f65676e6172,0x666f5f656c626174,0x746e6174736e6f63,0x646c6569665f746573,0x6e6f74656c676e6973,0x726961705f776f6873,0x747865745f776f6873,0x726f7272655f776f6873,0x7373616c635f6c616572,0x746e6564695f7478656e,0x6465776168745f6465656e,0x6c6f626d79735f776f6873,0x6e695f746e6174736e6f63,0x73656d616e5f6e65766967,0x746e6174736e6f635f6e776f,0x746e6174736e6f635f746573,0x746e6174736e6f635f646e6966]
noncomputable def dG(x:Nat):Nat:=rQ.getD x (2^200+x)
theorem NA:∀a∈rQ,a<2^200:=by decide+kernel
theorem W_{a x y:Nat}(h:2^200+x=a)(k:rQ[y]?=JS a):False:=GX.mpr (h▸Hy _ _) (NA a (J5 k))
theorem NB{x y:Nat}(h:dG x=dG y):x=y:=by
 have h:(rQ[x]?).getD (2^200+x)=(rQ[y]?).getD (2^200+y):=h;cases hx:rQ[x]? with
 |none=>cases hy:rQ[y]? with|none=>rw[hx,hy]at h;exact Nat.add_left_cancel h|some b=>rw[hx,hy]at h;exact(W_ h hy).elim
 |some a=>cases hy:rQ[y]? with|none=>rw[hx,hy]at h;exact(W_ h.symm hx).elim|some b=>rw[hx,hy]at h;exact(List.getElem?_inj (J9.mp hx).1 (by decide+kernel:rQ.Nodup)).mp (hx.trans ((congrArg JS h).trans hy.symm))
noncomputable def dI(x:Nat):Str:=⟨(dig (x.log2/8+1) x).toArray⟩
theorem NG{x y:Nat}(h:dI x=dI y):x=y:=by
 obtain lt:∀x:Nat,x<256^(x.log2/8+1):=λx=>by rw[show(256:Nat)=2^8 by decide,<-Nat.pow_mul];exact IJ (Nat.lt_log2_self (n:=x)) (Nat.pow_le_pow_right (by decide) (by lia))
 rewrite[<-bz _ x (lt x)];rewrite[<-bz _ y (lt y)];rw[ET (congrArg Str.cps h)]
noncomputable def nm(x:Nat):Str:=dI (dG x)
theorem dH{x y:Nat}(h:nm x=nm y):x=y:=NB (NG h)
theorem iV{x y:Nat}(h:x≠y):nm x≠nm y:=λq=>h (dH q)
noncomputable def tx(s:List Nat):Str:=⟨s.toArray⟩
theorem mj{s t:List Nat}(h:tx s=tx t):s=t:=ET (congrArg Str.cps h)
noncomputable def Bi.id:Bi->String|.len=>"len"|.sum=>"sum"|.isinstance=>"isinstance"|.abs=>"abs"|.sorted=>"sorted"|.nQ=>"list.append"|.dZ=>"list.extend"|.dR=>"list.pop"|.dY=>"list.index"|.zG=>"dict.get"|.ft=>"dict.pop"|.m9=>"dict.update"|.bw=>"ValueError.__init__"
noncomputable def Ty.id:Ty->String|.bool=>"bool"|.int=>"int"|.str=>"str"|.list=>"list"|.dict=>"dict"|.bx=>"ValueError"|.range=>"range"|.enum=>"enumerate"
structure Dc where
 p:Pos
 k:Nat
 sc:Scope
 e:Expr
 s:Stmt
noncomputable abbrev Pi:=List Nat->Dc
noncomputable def sh(zw:Pi)(i:Nat):Pi:=λl=>zw (i::l)
noncomputable def ar:qL->Operator|.add=>.Add|.sub=>.Sub|.mul=>.Mult|.floordiv=>.FloorDiv|.mod=>.Mod|.pow=>.Pow
noncomputable def js:ry->CmpOp|.eq=>.Eq|.ne=>.NotEq|.lt=>.Lt|.is=>.Is|.yS=>.IsNot|.yQ=>.In|.y9=>.NotIn
noncomputable def w7(zw:Pi):List Nat->List Expr|[]=>[]|x::r=>.Name (nm x) (zw [0]).p::w7 (sh zw 1) r
noncomputable def toT(zw:Pi)(xs:List Nat):Expr:=match xs with|[x]=>.Name (nm x) (zw []).p|xs=>.Tuple (w7 (sh zw 0) xs) (zw []).k (zw []).p
noncomputable def ow(zw:Pi)(k:IK)(e:Expr):Expr:=match k with|.plain=>e|.range=>.Call (.Name "range" (zw [2]).p) [e] [] (zw []).p|.enum=>.Call (.Name "enumerate" (zw [2]).p) [e] [] (zw []).p|.items=>.Call (.Attribute e "items" (zw [2]).p) [] [] (zw []).p
noncomputable def sD(zw:Pi)(k:IK):Pi:=match k with|.plain=>zw|.items=>sh zw 0|_=>sh (sh zw 1) 0
mutual
noncomputable def zW:M->Pi->Expr|.none,zw=>.Constant .none (zw []).k (zw []).p|.bool b,zw=>.Constant (.bool b) (zw []).k (zw []).p|.int i,zw=>.Constant (.int i) (zw []).k (zw []).p|.str s,zw=>.Constant (.str (tx s)) (zw []).k (zw []).p|.neg i,zw=>.UnaryOp .USub (.Constant (.int i) (zw [0]).k (zw [0]).p) (zw []).p|.loc x,zw=>.Name (nm x) (zw []).p|.zu x,zw=>.Name (nm x) (zw []).p|.tup es,zw=>.Tuple (xW es (sh zw 0)) (zw []).k (zw []).p|.lst es,zw=>.List (xW es (sh zw 0)) (zw []).p|.wg kvs,zw=>.Dict (mn kvs (sh zw 0)) (gz kvs (sh zw 0)) (zw []).p|.attr e x,zw=>.Attribute (zW e (sh zw 0)) (nm x) (zw []).p|.sub e i,zw=>.Subscript (zW e (sh zw 0)) (zW i (sh zw 1)) (zw []).p|.qR e i,zw=>.Subscript (zW e (sh zw 0)) (.Slice (JS (zW i (sh zw 2))) none none (zw [1]).p) (zw []).p|.p0 e i,zw=>.Subscript (zW e (sh zw 0)) (.Slice none (JS (zW i (sh zw 2))) none (zw [1]).p) (zw []).p|.oz e,zw=>.Subscript (zW e (sh zw 0)) (.Slice none none (JS (.UnaryOp .USub (.Constant (.int 1) (zw [2,0]).k (zw [2,0]).p) (zw [2]).p)) (zw [1]).p) (zw []).p|.wX e,zw=>.Subscript (zW e (sh zw 0)) (.Slice (JS (.Constant (.int 1) (zw [2]).k (zw [2]).p)) (JS (.UnaryOp .USub (.Constant (.int 1) (zw [3,0]).k (zw [3,0]).p) (zw [3]).p)) none (zw [1]).p) (zw []).p|.call f args,zw=>.Call (zW f (sh zw 0)) (xW args (sh zw 1)) [] (zw []).p|.zl o x args,zw=>.Call (.Attribute (zW o (sh zw 0)) (nm x) (zw [2]).p) (xW args (sh zw 1)) [] (zw []).p|.bin op a b,zw=>.BinOp (zW a (sh zw 0)) (ar op) (zW b (sh zw 1)) (zw []).p|.not e,zw=>.UnaryOp .Not (zW e (sh zw 0)) (zw []).p|.cmp op a b,zw=>.Compare (zW a (sh zw 0)) [js op] [zW b (sh zw 1)] (zw []).p|.and es,zw=>.BoolOp .And (xW es (sh zw 0)) (zw []).p|.or es,zw=>.BoolOp .Or (xW es (sh zw 0)) (zw []).p|.ite c a b,zw=>.IfExp (zW c (sh zw 0)) (zW a (sh zw 1)) (zW b (sh zw 2)) (zw []).p|.comp elt xs k it yd,zw=>.ListComp (zW elt (sh zw 0)) [⟨toT (sh zw 1) xs,ow (sh zw 2) k (zW it (sD (sh zw 2) k)),xW yd (sh zw 3),0⟩] (zw []).sc (zw []).p|.qh,zw|.nil,zw|.cons zo zY,zw|.kv zH ya xk,zw=>(zw []).e
noncomputable def xW:M->Pi->List Expr|.cons e es,zw=>zW e (sh zw 0)::xW es (sh zw 1)|.tup es,zw=>xW es zw|zo,zY=>[]
noncomputable def mn:M->Pi->List (Option Expr)|.kv k zo r,zw=>JS (zW k (sh zw 0))::mn r (sh zw 2)|zo,zY=>[]
noncomputable def gz:M->Pi->List Expr|.kv zo v r,zw=>zW v (sh zw 1)::gz r (sh zw 2)|zo,zY=>[]
end
mutual
noncomputable def toS:S->Pi->Stmt|.expr e,zw=>.Expr (zW e (sh zw 0)) (zw []).p|.ret e,zw=>.Return (JS (zW e (sh zw 0))) (zw []).p|.asg x e,zw=>.Assign [.Name (nm x) (zw [0]).p] (zW e (sh zw 1)) (zw []).p|.yD xs e,zw=>.Assign [.Tuple (w7 (sh (sh zw 0) 0) xs) (zw [0]).k (zw [0]).p] (zW e (sh zw 1)) (zw []).p|.zC o x e,zw=>.Assign [.Attribute (zW o (sh (sh zw 0) 0)) (nm x) (zw [0]).p] (zW e (sh zw 1)) (zw []).p|.y7 o i e,zw=>.Assign [.Subscript (zW o (sh (sh zw 0) 0)) (zW i (sh (sh zw 0) 1)) (zw [0]).p] (zW e (sh zw 1)) (zw []).p|.mO o i o' i' e,zw=>.Assign [.Tuple [.Subscript (zW o (sh (sh (sh (sh zw 0) 0) 0) 0)) (zW i (sh (sh (sh (sh zw 0) 0) 0) 1)) (zw [0,0,0]).p,.Subscript (zW o' (sh (sh (sh (sh (sh zw 0) 0) 1) 0) 0)) (zW i' (sh (sh (sh (sh (sh zw 0) 0) 1) 0) 1)) (zw [0,0,1,0]).p] (zw [0]).k (zw [0]).p] (zW e (sh zw 1)) (zw []).p|.qG o x e,zw=>.AugAssign (.Attribute (zW o (sh (sh zw 0) 0)) (nm x) (zw [0]).p) .Add (zW e (sh zw 1)) (zw []).p|.cond c a b,zw=>.If (zW c (sh zw 0)) (uX a (sh zw 1)) (uX b (sh zw 2)) (zw []).p|.while c b,zw=>.While (zW c (sh zw 0)) (uX b (sh zw 1)) [] (zw []).p|.for xs k it b,zw=>.For (toT (sh zw 0) xs) (ow (sh zw 1) k (zW it (sD (sh zw 1) k))) (uX b (sh zw 2)) [] (zw []).p|.raise e,zw=>.Raise (JS (zW e (sh zw 0))) none (zw []).p|.try b x h,zw=>.Try (uX b (sh zw 0)) [.ExceptHandler (JS (.Name "Raised" (zw [1]).p)) (JS (nm x)) [.Return (JS (zW h (sh (sh (sh zw 2) 0) 0))) (zw [2,0]).p] (zw [3]).p] [] [] (zw []).p|.qh,zw|.nil,zw|.cons zo zY,zw=>(zw []).s
noncomputable def uX:S->Pi->List Stmt|.cons s r,zw=>toS s (sh zw 0)::uX r (sh zw 1)|zo,zY=>[]
end
inductive Nd where|e(x:Expr)|es(l:List Expr)|kvs(ks:List (Option Expr))(vs:List Expr)|s(x:Stmt)|ss(l:List Stmt)|hp(p:Pos)|no
noncomputable def OI(x:Expr):List Nd:=match x with|.BoolOp zo l zY|.List l zH|.Tuple l ya xk=>[.es l]|.BinOp a zo b zY=>[.e a,.e b]|.UnaryOp zo a zY=>[.e a]|.IfExp c a b zo=>[.e c,.e a,.e b]|.Dict ks vs zo=>[.kvs ks vs]|.ListComp a [⟨t,it,ifs,zo⟩] zY zH=>[.e a,.e t,.e it,.es ifs]|.Compare a zo (b::zY) zH=>[.e a,.e b]|.Call (.Attribute o x p) l zo zY=>[.e o,.es l,.e (.Attribute o x p)]|.Call f l zo zY=>[.e f,.es l,.e f]|.Attribute a zo zY=>[.e a]|.Subscript a (.Slice lo hi st p) zo=>.e a::.hp p::((lo.toList++hi.toList++st.toList).map .e)|.Subscript a b zo=>[.e a,.e b]|_=>[]
noncomputable def OH(x:Stmt):List Nd:=match x with|.Expr v zo|.Return (JS v) zY|.Raise (JS v) zH ya=>[.e v]|.Assign [t] v zo|.AugAssign t zY v zH=>[.e t,.e v]|.If c a b zo=>[.e c,.ss a,.ss b]|.While c a zo zY=>[.e c,.ss a]|.For t it a zo zY=>[.e t,.e it,.ss a]|.Try a [.ExceptHandler (JS ty) zo h p] zY zH ya=>[.ss a,.e ty,.ss h,.hp p]|_=>[]
noncomputable def Nd.kids:Nd->List Nd|.e x=>OI x|.s x=>OH x|.es (a::r)=>[.e a,.es r]|.ss (a::r)=>[.s a,.ss r]|.kvs (JS k::ks) (v::vs)=>[.e k,.e v,.kvs ks vs]|_=>[]
noncomputable def Nd.go:Nd->List Nat->Nd|d,[]=>d|d,i::l=>(d.kids.getD i .no).go l
noncomputable def pB:Pos:=⟨0,0,0,0⟩
noncomputable def Nd.dc(d:Nd):Dc:=match d with|.e x=>{p:=x.pos,k:=match x with|.Constant _ k _|.Tuple _ k _=>k|_=>0,sc:=match x with|.ListComp _ _ sc _=>sc|_=>default,e:=x,s:=.Pass pB}|.s x=>{p:=x.pos,k:=0,sc:=default,e:=.Name "" pB,s:=x}|.hp p=>{p:=p,k:=0,sc:=default,e:=.Name "" pB,s:=.Pass pB}|_=>{p:=pB,k:=0,sc:=default,e:=.Name "" pB,s:=.Pass pB}
noncomputable def qY(b:List Stmt):Pi:=λl=>(Nd.go (.ss b) l).dc
open PySem
noncomputable def Ts:S:=(.cons (.zC (.loc 3) 17 (.loc 17)) (.cons (.zC (.loc 3) 18 (.loc 18)) (.cons (.zC (.loc 3) 114 (.wg .nil)) (.cons (.zC (.loc 3) 24 .none) (.cons (.zC (.loc 3) 106 (.bool JT)) (.cons (.zC (.loc 3) 104 .none) .nil))))))
noncomputable def aR:FD:=⟨[3,17,18],[],Ts⟩
noncomputable def Tt:S:=(.cons (.expr (.zl (.zu 64) 47 (.cons (.loc 3) (.cons (.loc 17) (.cons (.loc 18) .nil))))) (.cons (.zC (.loc 3) 62 (.loc 62)) .nil))
noncomputable def q5:FD:=⟨[3,17,18,62],[.str []],Tt⟩
noncomputable def Tx:S:=(.cons (.expr (.zl (.zu 64) 47 (.cons (.loc 3) (.cons (.loc 17) (.cons (.loc 18) .nil))))) (.cons (.zC (.loc 3) 59 (.loc 59)) (.cons (.zC (.loc 3) 161 .none) .nil)))
noncomputable def q8:FD:=⟨[3,17,18,59],[.none],Tx⟩
noncomputable def b7:S:=(.cons (.expr (.zl (.zu 64) 47 (.cons (.loc 3) (.cons (.loc 17) (.cons (.loc 18) .nil))))) (.cons (.zC (.loc 3) 0 (.loc 0)) (.cons (.zC (.loc 3) 21 (.loc 21)) (.cons (.zC (.loc 3) 11 (.loc 11)) (.cons (.zC (.loc 3) 42 (.loc 42)) (.cons (.zC (.loc 3) 19 (.wg .nil)) (.cons (.zC (.loc 3) 174 (.wg .nil)) (.cons (.zC (.loc 3) 80 (.lst .nil)) (.cons (.zC (.loc 3) 94 (.lst .nil)) (.cons (.zC (.loc 3) 41 .none) (.cons (.zC (.loc 3) 34 .none) (.cons (.zC (.loc 3) 61 .none) .nil))))))))))))
noncomputable def q6:FD:=⟨[3,17,18,0,21,11,42],[.none,.bool JT,.none,.none],b7⟩
noncomputable def Tv:S:=(.cons (.ret (.cmp .yS (.attr (.loc 3) 41) .none)) .nil)
noncomputable def aS:FD:=⟨[3],[],Tv⟩
noncomputable def U':S:=(.cons (.zC (.loc 3) 0 (.loc 0)) (.cons (.zC (.loc 3) 18 (.loc 18)) (.cons (.zC (.loc 3) 35 (.loc 35)) (.cons (.zC (.loc 3) 89 (.loc 89)) (.cons (.zC (.loc 3) 63 (.loc 63)) (.cons (.zC (.loc 3) 14 (.loc 14)) (.cons (.zC (.loc 3) 115 (.tup .nil)) (.cons (.zC (.loc 3) 111 .none) .nil))))))))
noncomputable def qA:FD:=⟨[3,0,18,35,89,63,14],[.none,.none,.str [112,117,98,108,105,99]],U'⟩
noncomputable def Tz:S:=(.cons (.asg 4 (.call (.zu 95) (.cons (.loc 0) (.cons (.loc 18) (.cons (.attr (.loc 3) 35) (.cons (.attr (.loc 3) 89) (.cons (.attr (.loc 3) 63) (.cons (.ite (.cmp .is (.loc 14) .none) (.attr (.loc 3) 14) (.loc 14)) .nil)))))))) (.cons (.zC (.loc 4) 115 (.attr (.loc 3) 115)) (.cons (.zC (.loc 4) 111 (.attr (.loc 3) 111)) (.cons (.ret (.loc 4)) .nil))))
noncomputable def q9:FD:=⟨[3,0,18,14],[.none],Tz⟩
noncomputable def Sd:S:=(.cons (.cond (.cmp .is (.loc 6) .none) (.cons (.ret (.str [110,105,108])) .nil) .nil) (.cons (.cond (.call (.zu 23) (.cons (.loc 6) (.cons (.zu 112) .nil))) (.cons (.ret (.str [98,111,111,108])) .nil) .nil) (.cons (.cond (.call (.zu 23) (.cons (.loc 6) (.cons (.zu 45) .nil))) (.cons (.ret (.str [105,110,116])) .nil) .nil) (.cons (.ret (.ite (.call (.zu 23) (.cons (.loc 6) (.cons (.zu 70) .nil))) (.str [115,121,109]) (.str [116,104,105,110,103]))) .nil))))
noncomputable def ZJ:FD:=⟨[6],[],Sd⟩
noncomputable def Sh:S:=(.cons (.asg 35 (.call (.zu 145) (.cons (.loc 5) .nil))) (.cons (.cond (.cmp .ne (.loc 35) (.call (.zu 145) (.cons (.loc 66) .nil))) (.cons (.ret (.bool JT)) .nil) .nil) (.cons (.ret (.ite (.cmp .eq (.loc 35) (.str [116,104,105,110,103])) (.cmp .eq (.attr (.loc 5) 17) (.attr (.loc 66) 17)) (.cmp .eq (.loc 5) (.loc 66)))) .nil)))
noncomputable def ZM:FD:=⟨[5,66],[],Sh⟩
noncomputable def TO:S:=(.cons (.cond (.cmp .yS (.attr (.loc 2) 41) .none) (.cons (.ret (.bin .add (.bin .add (.str [35,60,67,108,97,115,115,58]) (.call (.zu 160) (.cons (.attr (.loc 2) 41) .nil))) (.str [62]))) .nil) .nil) (.cons (.cond (.cmp .is (.attr (.loc 2) 0) .none) (.cons (.ret (.ite (.attr (.loc 2) 21) (.str [35,60,67,108,97,115,115,62]) (.str [35,60,77,111,100,117,108,101,62]))) .nil) .nil) (.cons (.cond (.cmp .is (.attr (.loc 2) 42) .none) (.cons (.ret (.attr (.loc 2) 0)) .nil) .nil) (.cons (.ret (.bin .add (.bin .add (.call (.zu 60) (.cons (.attr (.loc 2) 42) .nil)) (.str [58,58])) (.attr (.loc 2) 0))) .nil))))
noncomputable def Zu:FD:=⟨[2],[],TO⟩
noncomputable def Se:S:=(.cons (.cond (.call (.zu 23) (.cons (.loc 6) (.cons (.zu 121) .nil))) (.cons (.ret (.call (.zu 224) (.cons (.attr (.loc 6) 62) .nil))) .nil) .nil) (.cons (.cond (.call (.zu 23) (.cons (.loc 6) (.cons (.zu 150) .nil))) (.cons .qh (.cons (.ret (.bin .add (.bin .add (.str [91]) (.zl (.str [44,32]) 158 (.cons (.comp (.call (.zu 160) (.cons (.loc 132) (.cons (.bin .sub (.loc 86) (.int 1)) .nil))) [132] .plain (.attr (.loc 6) 197) .nil) .nil))) (.str [93]))) .nil)) .nil) (.cons (.cond (.call (.zu 23) (.cons (.loc 6) (.cons (.zu 153) .nil))) (.cons .qh (.cons (.ret (.bin .add (.bin .add (.str [123]) (.zl (.str [44,32]) 158 (.cons (.comp (.call (.zu 223) (.cons (.loc 190) (.cons (.loc 132) (.cons (.bin .sub (.loc 86) (.int 1)) .nil)))) [190,132] .plain (.zl (.loc 6) 163 .nil) .nil) .nil))) (.str [125]))) .nil)) .nil) (.cons (.cond (.call (.zu 23) (.cons (.loc 6) (.cons (.zu 152) .nil))) (.cons .qh .nil) .nil) (.cons (.cond (.call (.zu 23) (.cons (.loc 6) (.cons (.zu 44) .nil))) (.cons (.ret (.call (.zu 60) (.cons (.loc 6) .nil))) .nil) .nil) (.cons (.asg 0 (.call (.zu 60) (.cons (.attr (.loc 6) 18) .nil))) (.cons (.cond (.call (.zu 23) (.cons (.loc 6) (.cons (.zu 125) .nil))) (.cons (.ret (.call (.zu 225) (.cons (.loc 6) (.cons (.loc 0) (.cons (.loc 86) .nil))))) .nil) .nil) (.cons (.cond (.call (.zu 23) (.cons (.loc 6) (.cons (.zu 149) .nil))) (.cons (.ret (.ite (.attr (.loc 6) 202) (.str [35,60,80,114,111,99,32,40,108,97,109,98,100,97,41,62]) (.str [35,60,80,114,111,99,62]))) .nil) .nil) (.cons (.ret (.bin .add (.bin .add (.str [35,60]) (.loc 0)) (.str [62]))) .nil)))))))))
noncomputable def ZK:FD:=⟨[6,86],[],Se⟩
noncomputable def Sf:S:=(.cons (.asg 35 (.call (.zu 145) (.cons (.loc 6) .nil))) (.cons (.cond (.cmp .eq (.loc 35) (.str [116,104,105,110,103])) (.cons (.ret (.call (.zu 206) (.cons (.loc 6) (.cons (.loc 86) .nil)))) .nil) .nil) (.cons (.cond (.cmp .eq (.loc 35) (.str [115,121,109])) (.cons (.ret (.call (.zu 229) (.cons (.loc 6) .nil))) .nil) .nil) (.cons (.cond (.cmp .eq (.loc 35) (.str [110,105,108])) (.cons (.ret (.str [110,105,108])) .nil) .nil) (.cons (.cond (.cmp .eq (.loc 35) (.str [98,111,111,108])) (.cons (.ret (.ite (.loc 6) (.str [116,114,117,101]) (.str [102,97,108,115,101]))) .nil) .nil) (.cons (.ret (.call (.zu 70) (.cons (.loc 6) .nil))) .nil))))))
noncomputable def px:FD:=⟨[6,86],[.int 6],Sf⟩
noncomputable def TM:S:=(.cons (.for [36] .plain (.loc 167) (.cons (.cond (.call (.zu 85) (.cons (.loc 36) (.cons (.loc 5) .nil))) (.cons (.ret (.bool JQ)) .nil) .nil) .nil)) (.cons (.ret (.bool JT)) .nil))
noncomputable def Zs:FD:=⟨[167,5],[],TM⟩
noncomputable def Sr:S:=(.cons (.asg 4 (.lst .nil)) (.cons (.for [5] .plain (.oz (.attr (.loc 2) 94)) (.cons (.expr (.zl (.loc 4) 88 (.cons (.call (.zu 82) (.cons (.loc 5) .nil)) .nil))) .nil)) (.cons (.expr (.zl (.loc 4) 30 (.cons (.loc 2) .nil))) (.cons (.for [5] .plain (.oz (.attr (.loc 2) 80)) (.cons (.expr (.zl (.loc 4) 88 (.cons (.call (.zu 82) (.cons (.loc 5) .nil)) .nil))) .nil)) (.cons (.ret (.loc 4)) .nil)))))
noncomputable def ZU:FD:=⟨[2],[],Sr⟩
noncomputable def TZ:S:=(.cons (.ret (.call (.zu 188) (.cons (.comp (.call (.zu 31) (.cons (.call (.zu 82) (.cons (.loc 5) .nil)) .nil)) [5] .plain (.attr (.loc 2) 94) .nil) .nil))) .nil)
noncomputable def aC:FD:=⟨[2],[],TZ⟩
noncomputable def Sy:S:=(.cons (.asg 22 (.ite (.cmp .is (.attr (.loc 2) 11) .none) (.lst .nil) (.call (.zu 81) (.cons (.loc 1) (.cons (.attr (.loc 2) 11) .nil))))) (.cons (.yD [4,87] (.tup (.cons (.lst .nil) (.cons (.call (.zu 181) (.cons (.loc 2) .nil)) .nil)))) (.cons (.for [53,5] .enum (.call (.zu 82) (.cons (.loc 2) .nil)) (.cons (.cond (.and (.cons (.not (.call (.zu 43) (.cons (.loc 4) (.cons (.loc 5) .nil)))) (.cons (.or (.cons (.cmp .lt (.loc 53) (.loc 87)) (.cons (.not (.call (.zu 43) (.cons (.loc 22) (.cons (.loc 5) .nil)))) .nil))) .nil))) (.cons (.expr (.zl (.loc 4) 30 (.cons (.loc 5) .nil))) .nil) .nil) .nil)) (.cons (.ret (.bin .add (.loc 4) (.comp (.loc 5) [5] .plain (.loc 22) (.cons (.not (.call (.zu 43) (.cons (.loc 4) (.cons (.loc 5) .nil)))) .nil)))) .nil))))
noncomputable def ZZ:FD:=⟨[1,2],[],Sy⟩
noncomputable def Sz:S:=(.cons (.cond (.or (.cons (.cmp .is (.attr (.loc 2) 61) .none) (.cons (.cmp .ne (.sub (.attr (.loc 2) 61) (.int 0)) (.attr (.loc 1) 99)) .nil))) (.cons (.zC (.loc 2) 61 (.tup (.cons (.attr (.loc 1) 99) (.cons (.call (.zu 173) (.cons (.loc 1) (.cons (.loc 2) .nil))) .nil)))) .nil) .nil) (.cons (.ret (.sub (.attr (.loc 2) 61) (.int 1))) .nil))
noncomputable def Z_:FD:=⟨[1,2],[],Sz⟩
noncomputable def TN:S:=(.cons (.asg 63 (.zl (.zl (.attr (.loc 1) 107) 49 (.cons (.attr (.loc 2) 34) (.cons (.wg .nil) .nil))) 49 (.cons (.loc 0) .nil))) (.cons (.cond (.cmp .yS (.loc 63) .none) (.cons (.asg 35 (.ite (.call (.zu 23) (.cons (.loc 63) (.cons (.zu 70) .nil))) (.str [99,111,110,116,114,111,108]) (.str [110,97,116,105,118,101]))) (.cons (.ret (.call (.zu 108) (.cons (.loc 0) (.cons (.loc 2) (.cons (.loc 35) (.cons .none (.cons (.loc 63) (.cons (.call (.zu 200) (.cons (.loc 2) (.cons (.loc 0) .nil))) .nil)))))))) .nil)) .nil) (.cons (.asg 166 (.zl (.zl (.attr (.loc 1) 98) 49 (.cons (.attr (.loc 2) 34) (.cons (.wg .nil) .nil))) 49 (.cons (.loc 0) .nil))) (.cons (.cond (.cmp .is (.loc 166) .none) (.cons (.ret .none) .nil) .nil) (.cons (.asg 119 (.zl (.loc 1) 110 (.cons (.loc 166) .nil))) (.cons (.while (.cmp .eq (.attr (.loc 119) 191) (.str [115,101,113])) (.cons (.asg 119 (.sub (.sub (.attr (.loc 119) 164) (.int 0)) (.int 0))) .nil)) (.cons (.yD [222,131,89,192] (.attr (.loc 119) 164)) (.cons (.ret (.call (.zu 108) (.cons (.loc 131) (.cons (.loc 2) (.cons (.str [116,114,101,101]) (.cons (.loc 89) (.cons (.loc 192) (.cons (.call (.zu 200) (.cons (.loc 2) (.cons (.loc 0) .nil))) .nil)))))))) .nil))))))))
noncomputable def Zt:FD:=⟨[1,2,0],[],TN⟩
noncomputable def TU:S:=(.cons (.asg 4 (.zl (.attr (.loc 2) 19) 49 (.cons (.loc 0) .nil))) (.cons (.cond (.and (.cons (.cmp .is (.loc 4) .none) (.cons (.cmp .yS (.attr (.loc 2) 34) .none) .nil))) (.cons (.asg 4 (.call (.zu 129) (.cons (.loc 1) (.cons (.loc 2) (.cons (.loc 0) .nil))))) (.cons (.cond (.cmp .yS (.loc 4) .none) (.cons (.y7 (.attr (.loc 2) 19) (.loc 0) (.loc 4)) .nil) .nil) .nil)) .nil) (.cons (.ret (.ite (.or (.cons (.cmp .is (.loc 4) .none) (.cons (.cmp .eq (.attr (.loc 4) 35) (.str [103,111,110,101])) .nil))) .none (.loc 4))) .nil)))
noncomputable def Zz:FD:=⟨[1,2,0],[],TU⟩
noncomputable def TP:S:=(.cons (.for [2] .plain (.loc 33) (.cons (.asg 4 (.call (.zu 67) (.cons (.loc 1) (.cons (.loc 2) (.cons (.loc 0) .nil))))) (.cons (.cond (.cmp .yS (.loc 4) .none) (.cons (.ret (.ite (.cmp .eq (.attr (.loc 4) 35) (.str [110,111,110,101])) .none (.loc 4))) .nil) .nil) .nil))) (.cons (.ret .none) .nil))
noncomputable def Zv:FD:=⟨[1,33,0],[],TP⟩
noncomputable def TR:S:=(.cons (.ret (.call (.zu 117) (.cons (.loc 1) (.cons (.call (.zu 81) (.cons (.loc 1) (.cons (.loc 2) .nil))) (.cons (.loc 0) .nil))))) .nil)
noncomputable def Zx:FD:=⟨[1,2,0],[],TR⟩
noncomputable def TQ:S:=(.cons (.asg 33 (.call (.zu 81) (.cons (.loc 1) (.cons (.loc 2) .nil)))) (.cons (.for [53,5] .enum (.loc 33) (.cons (.cond (.call (.zu 85) (.cons (.loc 5) (.cons (.loc 18) .nil))) (.cons (.ret (.call (.zu 117) (.cons (.loc 1) (.cons (.qR (.loc 33) (.bin .add (.loc 53) (.int 1))) (.cons (.loc 0) .nil))))) .nil) .nil) .nil)) (.cons (.ret .none) .nil)))
noncomputable def Zw:FD:=⟨[1,2,18,0],[],TQ⟩
noncomputable def Sk:S:=(.cons (.qG (.loc 1) 99 (.int 1)) .nil)
noncomputable def ZP:FD:=⟨[1],[],Sk⟩
noncomputable def Ss:S:=(.cons (.cond (.attr (.loc 2) 106) (.cons (.expr (.zl (.loc 1) 57 (.cons (.str [70,114,111,122,101,110,69,114,114,111,114]) (.cons (.bin .add (.bin .add (.bin .add (.str [99,97,110,39,116,32,109,111,100,105,102,121,32,102,114,111,122,101,110,32]) (.call (.zu 148) (.cons (.loc 2) .nil))) (.str [58,32])) (.call (.zu 60) (.cons (.loc 2) .nil))) .nil)))) .nil) .nil) .nil)
noncomputable def ZV:FD:=⟨[1,2],[],Ss⟩
noncomputable def Sq:S:=(.cons (.cond (.or (.cons (.cmp .is (.loc 6) .none) (.cons (.call (.zu 23) (.cons (.loc 6) (.cons (.zu 112) .nil))) .nil))) (.cons (.ret (.zl (.loc 1) 100 (.cons (.loc 6) .nil))) .nil) .nil) (.cons (.cond (.not (.call (.zu 23) (.cons (.loc 6) (.cons (.zu 64) .nil)))) (.cons (.expr (.zl (.loc 1) 57 (.cons (.str [84,121,112,101,69,114,114,111,114]) (.cons (.str [99,97,110,39,116,32,100,101,102,105,110,101,32,115,105,110,103,108,101,116,111,110]) .nil)))) .nil) .nil) (.cons (.cond (.cmp .yS (.attr (.loc 6) 24) .none) (.cons (.ret (.attr (.loc 6) 24)) .nil) .nil) (.cons (.asg 11 (.zl (.loc 1) 100 (.cons (.loc 6) .nil))) (.cons (.cond (.and (.cons (.call (.zu 23) (.cons (.loc 6) (.cons (.zu 44) .nil))) (.cons (.attr (.loc 6) 21) (.cons (.cmp .yS (.attr (.loc 6) 11) .none) .nil)))) (.cons (.asg 11 (.call (.zu 68) (.cons (.loc 1) (.cons (.attr (.loc 6) 11) .nil)))) .nil) .nil) (.cons (.zC (.loc 6) 24 (.zl (.loc 1) 55 (.cons .none (.cons (.bool JQ) (.cons (.loc 11) (.cons .none (.cons (.loc 6) .nil))))))) (.cons (.cond (.and (.cons (.call (.zu 23) (.cons (.loc 6) (.cons (.zu 44) .nil))) (.cons (.cmp .yS (.attr (.loc 6) 34) .none) (.cons (.not (.zl (.loc 6) 72 .nil)) .nil)))) (.cons (.zC (.attr (.loc 6) 24) 34 (.bin .add (.attr (.loc 6) 34) (.str [46]))) .nil) .nil) (.cons (.expr (.call (.zu 74) (.cons (.loc 1) .nil))) (.cons (.ret (.attr (.loc 6) 24)) .nil)))))))))
noncomputable def ZT:FD:=⟨[1,6],[],Sq⟩
noncomputable def TV:S:=(.cons (.expr (.call (.zu 93) (.cons (.loc 1) (.cons (.loc 2) .nil)))) (.cons (.y7 (.attr (.loc 2) 19) (.attr (.loc 20) 0) (.loc 20)) (.cons (.expr (.call (.zu 74) (.cons (.loc 1) .nil))) .nil)))
noncomputable def a9:FD:=⟨[1,2,20],[],TV⟩
noncomputable def So:S:=(.cons (.expr (.call (.zu 93) (.cons (.loc 1) (.cons (.loc 2) .nil)))) (.cons (.y7 (.attr (.loc 2) 19) (.loc 0) (.loc 20)) (.cons (.expr (.call (.zu 74) (.cons (.loc 1) .nil))) .nil)))
noncomputable def ZR:FD:=⟨[1,2,0,20],[],So⟩
noncomputable def TJ:S:=(.cons (.ret (.ite (.attr (.loc 2) 21) (.str [99,108,97,115,115]) (.str [109,111,100,117,108,101]))) .nil)
noncomputable def Zp:FD:=⟨[2],[],TJ⟩
noncomputable def Sv:S:=(.cons (.asg 4 (.call (.zu 84) (.cons (.loc 1) (.cons (.loc 2) (.cons (.loc 0) .nil))))) (.cons (.cond (.and (.cons (.cmp .is (.loc 4) .none) (.cons (.not (.attr (.loc 2) 21)) .nil))) (.cons (.asg 4 (.call (.zu 84) (.cons (.loc 1) (.cons (.zl (.loc 1) 38 (.cons (.str [79,98,106,101,99,116]) .nil)) (.cons (.loc 0) .nil))))) .nil) .nil) (.cons (.cond (.cmp .is (.loc 4) .none) (.cons (.expr (.zl (.loc 1) 57 (.cons (.str [78,97,109,101,69,114,114,111,114]) (.cons (.bin .add (.bin .add (.bin .add (.bin .add (.bin .add (.bin .add (.str [117,110,100,101,102,105,110,101,100,32,109,101,116,104,111,100,32,39]) (.loc 0)) (.str [39,32,102,111,114,32])) (.call (.zu 148) (.cons (.loc 2) .nil))) (.str [32,39])) (.call (.zu 60) (.cons (.loc 2) .nil))) (.str [39])) .nil)))) .nil) .nil) (.cons (.ret (.loc 4)) .nil))))
noncomputable def ZX:FD:=⟨[1,2,0],[],Sv⟩
noncomputable def Sb:S:=(.cons (.expr (.call (.zu 83) (.cons (.loc 1) (.cons (.loc 2) (.cons (.loc 0) .nil))))) (.cons (.expr (.call (.zu 155) (.cons (.loc 1) (.cons (.loc 2) (.cons (.loc 0) (.cons (.call (.zu 95) (.cons (.loc 0) (.cons (.loc 2) (.cons (.str [110,111,110,101]) (.cons .none (.cons .none (.cons (.str [112,117,98,108,105,99]) .nil))))))) .nil)))))) .nil))
noncomputable def ZI:FD:=⟨[1,2,0],[],Sb⟩
noncomputable def Sj:S:=(.cons (.asg 4 (.call (.zu 67) (.cons (.loc 1) (.cons (.loc 2) (.cons (.loc 0) .nil))))) (.cons (.cond (.or (.cons (.cmp .is (.loc 4) .none) (.cons (.cmp .eq (.attr (.loc 4) 35) (.str [110,111,110,101])) .nil))) (.cons (.expr (.zl (.loc 1) 57 (.cons (.str [78,97,109,101,69,114,114,111,114]) (.cons (.bin .add (.bin .add (.bin .add (.str [109,101,116,104,111,100,32,39]) (.loc 0)) (.str [39,32,110,111,116,32,100,101,102,105,110,101,100,32,105,110,32])) (.call (.zu 60) (.cons (.loc 2) .nil))) .nil)))) .nil) .nil) (.cons (.expr (.call (.zu 93) (.cons (.loc 1) (.cons (.loc 2) .nil)))) (.cons (.cond (.or (.cons (.cmp .is (.attr (.loc 2) 34) .none) (.cons (.cmp .is (.call (.zu 129) (.cons (.loc 1) (.cons (.loc 2) (.cons (.loc 0) .nil)))) .none) .nil))) (.cons (.expr (.zl (.attr (.loc 2) 19) 69 (.cons (.loc 0) .nil))) .nil) (.cons (.y7 (.attr (.loc 2) 19) (.loc 0) (.call (.zu 95) (.cons (.loc 0) (.cons (.loc 2) (.cons (.str [103,111,110,101]) (.cons .none (.cons .none (.cons (.str [112,117,98,108,105,99]) .nil)))))))) .nil)) (.cons (.expr (.call (.zu 74) (.cons (.loc 1) .nil))) .nil)))))
noncomputable def ZO:FD:=⟨[1,2,0],[],Sj⟩
noncomputable def TX:S:=(.cons (.ret (.zl (.loc 20) 134 (.cons (.attr (.loc 20) 0) (.cons (.attr (.loc 20) 18) (.cons (.loc 14) .nil))))) .nil)
noncomputable def aA:FD:=⟨[20,14],[],TX⟩
noncomputable def TY:S:=(.cons (.asg 4 (.call (.zu 83) (.cons (.loc 1) (.cons (.loc 2) (.cons (.loc 187) .nil))))) (.cons (.expr (.call (.zu 155) (.cons (.loc 1) (.cons (.loc 2) (.cons (.loc 189) (.cons (.call (.zu 165) (.cons (.loc 4) (.cons (.attr (.loc 4) 14) .nil))) .nil)))))) .nil))
noncomputable def aB:FD:=⟨[1,2,189,187],[],TY⟩
noncomputable def Sg:S:=(.cons (.for [0] .plain (.loc 29) (.cons (.asg 4 (.call (.zu 83) (.cons (.loc 1) (.cons (.loc 2) (.cons (.loc 0) .nil))))) (.cons (.cond (.or (.cons (.cmp .ne (.attr (.loc 4) 14) (.loc 14)) (.cons (.cmp .is (.call (.zu 67) (.cons (.loc 1) (.cons (.loc 2) (.cons (.loc 0) .nil)))) .none) .nil))) (.cons (.expr (.call (.zu 155) (.cons (.loc 1) (.cons (.loc 2) (.cons (.loc 0) (.cons (.call (.zu 165) (.cons (.loc 4) (.cons (.loc 14) .nil))) .nil)))))) .nil) .nil) .nil))) .nil)
noncomputable def ZL:FD:=⟨[1,2,29,14],[],Sg⟩
noncomputable def Su:S:=(.cons (.cond (.or (.cons (.not (.call (.zu 23) (.cons (.loc 27) (.cons (.zu 44) .nil)))) (.cons (.attr (.loc 27) 21) .nil))) (.cons (.asg 131 (.call (.zu 60) (.cons (.zl (.loc 1) 100 (.cons (.loc 27) .nil)) .nil))) (.cons (.expr (.zl (.loc 1) 57 (.cons (.str [84,121,112,101,69,114,114,111,114]) (.cons (.bin .add (.bin .add (.str [119,114,111,110,103,32,97,114,103,117,109,101,110,116,32,116,121,112,101,32]) (.loc 131)) (.str [32,40,101,120,112,101,99,116,101,100,32,77,111,100,117,108,101,41])) .nil)))) .nil)) .nil) (.cons (.cond (.call (.zu 43) (.cons (.call (.zu 82) (.cons (.loc 27) .nil)) (.cons (.loc 2) .nil))) (.cons (.expr (.zl (.loc 1) 57 (.cons (.str [65,114,103,117,109,101,110,116,69,114,114,111,114]) (.cons (.str [99,121,99,108,105,99,32,105,110,99,108,117,100,101,32,100,101,116,101,99,116,101,100]) .nil)))) .nil) .nil) .nil))
noncomputable def ZW:FD:=⟨[1,2,27],[],Su⟩
noncomputable def TL:S:=(.cons (.expr (.call (.zu 127) (.cons (.loc 1) (.cons (.loc 2) (.cons (.loc 27) .nil))))) (.cons (.expr (.call (.zu 93) (.cons (.loc 1) (.cons (.loc 2) .nil)))) (.cons (.cond (.not (.call (.zu 43) (.cons (.attr (.loc 2) 80) (.cons (.loc 27) .nil)))) (.cons (.expr (.zl (.attr (.loc 2) 80) 30 (.cons (.loc 27) .nil))) (.cons (.expr (.call (.zu 74) (.cons (.loc 1) .nil))) .nil)) .nil) .nil)))
noncomputable def Zr:FD:=⟨[1,2,27],[],TL⟩
noncomputable def Sl:S:=(.cons (.expr (.call (.zu 127) (.cons (.loc 1) (.cons (.loc 2) (.cons (.loc 27) .nil))))) (.cons (.expr (.call (.zu 93) (.cons (.loc 1) (.cons (.loc 2) .nil)))) (.cons (.cond (.not (.call (.zu 43) (.cons (.attr (.loc 2) 94) (.cons (.loc 27) .nil)))) (.cons (.expr (.zl (.attr (.loc 2) 94) 30 (.cons (.loc 27) .nil))) (.cons (.expr (.call (.zu 74) (.cons (.loc 1) .nil))) .nil)) .nil) .nil)))
noncomputable def ZQ:FD:=⟨[1,2,27],[],Sl⟩
noncomputable def TS:S:=(.cons (.expr (.call (.zu 122) (.cons (.loc 1) (.cons (.call (.zu 68) (.cons (.loc 1) (.cons (.loc 6) .nil))) (.cons (.loc 27) .nil))))) .nil)
noncomputable def Zy:FD:=⟨[1,6,27],[],TS⟩
noncomputable def TK:S:=(.cons (.ret (.call (.zu 43) (.cons (.call (.zu 81) (.cons (.loc 1) (.cons (.zl (.loc 1) 105 (.cons (.loc 6) .nil)) .nil))) (.cons (.loc 2) .nil)))) .nil)
noncomputable def Zq:FD:=⟨[1,6,2],[],TK⟩
noncomputable def Sp:S:=(.cons (.asg 4 (.comp (.loc 0) [0,20] .items (.attr (.loc 2) 19) (.cons (.not (.call (.zu 23) (.cons (.loc 20) (.cons (.zu 108) .nil)))) .nil))) (.cons (.cond (.cmp .yS (.attr (.loc 2) 34) .none) (.cons (.expr (.zl (.loc 4) 88 (.cons (.comp (.loc 0) [0] .plain (.call (.zu 231) (.cons (.loc 1) (.cons (.loc 2) .nil))) (.cons (.cmp .y9 (.loc 0) (.loc 4)) .nil)) .nil))) .nil) .nil) (.cons (.ret (.loc 4)) .nil)))
noncomputable def ZS:FD:=⟨[1,2],[],Sp⟩
noncomputable def Sw:S:=(.cons (.yD [4,79] (.tup (.cons (.lst .nil) (.cons (.lst .nil) .nil)))) (.cons (.for [5] .plain (.ite (.loc 86) (.call (.zu 81) (.cons (.loc 1) (.cons (.loc 2) .nil))) (.lst (.cons (.loc 2) .nil))) (.cons (.for [0] .plain (.call (.zu 204) (.cons (.loc 1) (.cons (.loc 5) .nil))) (.cons (.asg 20 (.call (.zu 67) (.cons (.loc 1) (.cons (.loc 5) (.cons (.loc 0) .nil))))) (.cons (.cond (.and (.cons (.cmp .yS (.loc 20) .none) (.cons (.cmp .y9 (.loc 0) (.loc 79)) .nil))) (.cons (.expr (.zl (.loc 79) 30 (.cons (.loc 0) .nil))) (.cons (.cond (.and (.cons (.cmp .ne (.attr (.loc 20) 35) (.str [110,111,110,101])) (.cons (.cmp .ne (.attr (.loc 20) 14) (.str [112,114,105,118,97,116,101])) .nil))) (.cons (.expr (.zl (.loc 4) 30 (.cons (.loc 0) .nil))) .nil) .nil) .nil)) .nil) .nil))) .nil)) (.cons (.ret (.loc 4)) .nil)))
noncomputable def ZY:FD:=⟨[1,2,86],[],Sw⟩
noncomputable def Si:S:=(.cons (.asg 4 (.call (.zu 84) (.cons (.loc 1) (.cons (.zl (.loc 1) 105 (.cons (.loc 6) .nil)) (.cons (.loc 0) .nil))))) (.cons (.ret (.and (.cons (.cmp .yS (.loc 4) .none) (.cons (.or (.cons (.loc 91) (.cons (.cmp .eq (.attr (.loc 4) 14) (.str [112,117,98,108,105,99])) .nil))) .nil)))) .nil))
noncomputable def ZN:FD:=⟨[1,6,0,91],[],Si⟩
noncomputable def Tw:S:=(.cons (.expr (.zl (.zu 207) 47 (.cons (.loc 3) (.cons (.loc 71) .nil)))) (.cons (.zC (.loc 3) 71 (.loc 71)) .nil))
noncomputable def q7:FD:=⟨[3,71],[.str []],Tw⟩
noncomputable def Tu:S:=(.cons (.expr (.zl (.zu 201) 47 (.cons (.loc 3) (.cons (.str [97,32,82,117,98,121,32,101,114,114,111,114]) .nil)))) (.cons (.zC (.loc 3) 36 (.loc 36)) .nil))
noncomputable def gC:FD:=⟨[3,36],[],Tu⟩
noncomputable def Tj:S:=(.cons (.zC (.loc 3) 107 (.loc 107)) (.cons (.zC (.loc 3) 98 (.ite (.cmp .is (.loc 98) .none) (.wg .nil) (.loc 98))) (.cons (.zC (.loc 3) 110 (.loc 110)) (.cons (.zC (.loc 3) 120 (.loc 120)) (.cons (.zC (.loc 3) 162 (.int 0)) (.cons (.zC (.loc 3) 128 (.int 0)) (.cons (.zC (.loc 3) 179 (.int 8)) (.cons (.zC (.loc 3) 184 (.wg .nil)) (.cons (.zC (.loc 3) 76 (.wg .nil)) (.cons (.zC (.loc 3) 99 (.int 0)) (.cons (.zC (.loc 3) 183 (.int 0)) (.cons (.zC (.loc 3) 170 (.wg .nil)) (.cons (.zC (.loc 3) 156 (.lst .nil)) (.cons (.zC (.loc 3) 124 (.bool JT)) (.cons (.zC (.loc 3) 157 (.call (.zu 64) (.cons (.zl (.loc 3) 17 .nil) (.cons (.zl (.loc 3) 38 (.cons (.str [79,98,106,101,99,116]) .nil)) .nil)))) (.cons (.zC (.loc 3) 124 (.bool JQ)) (.cons (.for [0] .plain (.call (.zu 194) (.cons (.attr (.loc 3) 76) .nil)) (.cons (.expr (.zl (.loc 3) 147 (.cons (.loc 0) .nil))) .nil)) .nil)))))))))))))))))
noncomputable def q4:FD:=⟨[3,107,98,110,120],[.none,.none,.int 20000],Tj⟩
noncomputable def Tf:S:=(.cons (.qG (.loc 3) 128 (.int 1)) (.cons (.ret (.attr (.loc 3) 128)) .nil))
noncomputable def aI:FD:=⟨[3],[],Tf⟩
noncomputable def Tr:S:=(.cons (.asg 4 (.zl (.attr (.loc 3) 76) 49 (.cons (.loc 0) .nil))) (.cons (.ret (.ite (.cmp .is (.loc 4) .none) (.zl (.loc 3) 182 (.cons (.loc 0) .nil)) (.loc 4))) .nil))
noncomputable def aQ:FD:=⟨[3,0],[],Tr⟩
noncomputable def Th:S:=(.cons (.asg 21 (.cmp .y9 (.loc 0) (.zu 168))) (.cons (.asg 4 (.call (.zu 44) (.cons (.zl (.loc 3) 17 .nil) (.cons .none (.cons (.loc 0) (.cons (.loc 21) .nil)))))) (.cons (.y7 (.attr (.loc 3) 76) (.loc 0) (.loc 4)) (.cons (.zC (.loc 4) 34 (.loc 0)) (.cons (.asg 11 (.sub (.zu 171) (.loc 0))) (.cons (.zC (.loc 4) 11 (.ite (.cmp .is (.loc 11) .none) .none (.zl (.loc 3) 38 (.cons (.loc 11) .nil)))) (.cons (.zC (.loc 4) 18 (.zl (.loc 3) 38 (.cons (.ite (.loc 21) (.str [67,108,97,115,115]) (.str [77,111,100,117,108,101])) .nil))) (.cons (.zC (.loc 4) 80 (.comp (.zl (.loc 3) 38 (.cons (.loc 66) .nil)) [66] .plain (.zl (.zu 133) 49 (.cons (.loc 0) (.cons (.tup .nil) .nil))) .nil)) (.cons (.cond (.attr (.loc 3) 124) (.cons (.expr (.zl (.loc 3) 147 (.cons (.loc 0) .nil))) .nil) .nil) (.cons (.ret (.loc 4)) .nil))))))))))
noncomputable def aJ:FD:=⟨[3,0],[],Th⟩
noncomputable def Tn:S:=(.cons (.cond (.or (.cons (.cmp .yQ (.bin .add (.loc 0) (.str [46])) (.attr (.loc 3) 107)) (.cons (.cmp .yQ (.bin .add (.loc 0) (.str [46])) (.attr (.loc 3) 98)) .nil))) (.cons (.expr (.call (.zu 68) (.cons (.loc 3) (.cons (.sub (.attr (.loc 3) 76) (.loc 0)) .nil)))) .nil) .nil) .nil)
noncomputable def aM:FD:=⟨[3,0],[],Tn⟩
noncomputable def Tg:S:=(.cons (.asg 18 (.zl (.loc 3) 38 (.cons (.ite (.loc 21) (.str [67,108,97,115,115]) (.str [77,111,100,117,108,101])) .nil))) (.cons (.cond (.and (.cons (.loc 21) (.cons (.cmp .is (.loc 11) .none) .nil))) (.cons (.asg 11 (.zl (.loc 3) 38 (.cons (.str [79,98,106,101,99,116]) .nil))) .nil) .nil) (.cons (.asg 96 (.ite (.or (.cons (.cmp .is (.loc 42) .none) (.cons (.call (.zu 85) (.cons (.loc 42) (.cons (.zl (.loc 3) 38 (.cons (.str [79,98,106,101,99,116]) .nil)) .nil))) .nil))) .none (.loc 42))) (.cons (.asg 4 (.call (.zu 44) (.cons (.zl (.loc 3) 17 .nil) (.cons (.loc 18) (.cons (.loc 0) (.cons (.loc 21) (.cons (.loc 11) (.cons (.loc 96) .nil)))))))) (.cons (.zC (.loc 4) 41 (.loc 41)) (.cons (.ret (.loc 4)) .nil))))))
noncomputable def pz:FD:=⟨[3,0,21,11,42,41],[.none,.none,.none],Tg⟩
noncomputable def Tq:S:=(.cons (.cond (.cmp .is (.loc 6) .none) (.cons (.ret (.zl (.loc 3) 38 (.cons (.str [78,105,108,67,108,97,115,115]) .nil))) .nil) .nil) (.cons (.cond (.call (.zu 23) (.cons (.loc 6) (.cons (.zu 112) .nil))) (.cons (.ret (.zl (.loc 3) 38 (.cons (.ite (.loc 6) (.str [84,114,117,101,67,108,97,115,115]) (.str [70,97,108,115,101,67,108,97,115,115])) .nil))) .nil) .nil) (.cons (.cond (.call (.zu 23) (.cons (.loc 6) (.cons (.zu 45) .nil))) (.cons (.ret (.zl (.loc 3) 38 (.cons (.str [73,110,116,101,103,101,114]) .nil))) .nil) .nil) (.cons (.ret (.ite (.call (.zu 23) (.cons (.loc 6) (.cons (.zu 70) .nil))) (.zl (.loc 3) 38 (.cons (.str [83,121,109,98,111,108]) .nil)) (.attr (.loc 6) 18))) .nil))))
noncomputable def aP:FD:=⟨[3,6],[],Tq⟩
noncomputable def Td:S:=(.cons (.cond (.not (.call (.zu 23) (.cons (.loc 6) (.cons (.zu 64) .nil)))) (.cons (.ret (.zl (.loc 3) 100 (.cons (.loc 6) .nil))) .nil) .nil) (.cons (.cond (.cmp .yS (.attr (.loc 6) 24) .none) (.cons (.ret (.attr (.loc 6) 24)) .nil) .nil) (.cons (.ret (.ite (.call (.zu 23) (.cons (.loc 6) (.cons (.zu 44) .nil))) (.zl (.loc 3) 176 (.cons (.loc 6) .nil)) (.attr (.loc 6) 18))) .nil)))
noncomputable def aG:FD:=⟨[3,6],[],Td⟩
noncomputable def Te:S:=(.cons (.asg 22 (.ite (.and (.cons (.attr (.loc 2) 21) (.cons (.not (.zl (.loc 2) 72 .nil)) .nil))) (.attr (.loc 2) 11) .none)) (.cons (.while (.cmp .yS (.loc 22) .none) (.cons (.cond (.cmp .yS (.attr (.loc 22) 24) .none) (.cons (.ret (.attr (.loc 22) 24)) .nil) .nil) (.cons (.asg 22 (.attr (.loc 22) 11)) .nil))) (.cons (.ret (.attr (.loc 2) 18)) .nil)))
noncomputable def aH:FD:=⟨[3,2],[],Te⟩
noncomputable def Tc:S:=(.cons (.while (.or (.cons (.cmp .is (.attr (.loc 2) 34) .none) (.cons (.zl (.loc 2) 72 .nil) .nil))) (.cons (.asg 2 (.attr (.loc 2) 11)) .nil)) (.cons (.ret (.attr (.loc 2) 34)) .nil))
noncomputable def aF:FD:=⟨[3,2],[],Tc⟩
noncomputable def Ta:S:=(.cons (.ret (.call (.zu 121) (.cons (.zl (.loc 3) 17 .nil) (.cons (.zl (.loc 3) 38 (.cons (.str [83,116,114,105,110,103]) .nil)) (.cons (.loc 62) .nil))))) .nil)
noncomputable def aE:FD:=⟨[3,62],[],Ta⟩
noncomputable def T_:S:=(.cons (.cond (.zl (.loc 2) 72 .nil) (.cons (.expr (.zl (.loc 3) 57 (.cons (.str [84,121,112,101,69,114,114,111,114]) (.cons (.str [99,97,110,39,116,32,99,114,101,97,116,101,32,105,110,115,116,97,110,99,101,32,111,102,32,115,105,110,103,108,101,116,111,110,32,99,108,97,115,115]) .nil)))) .nil) .nil) (.cons (.yD [78,17] (.tup (.cons (.zl (.loc 3) 169 (.cons (.loc 2) .nil)) (.cons (.zl (.loc 3) 17 .nil) .nil)))) (.cons (.cond (.cmp .yQ (.loc 78) (.zu 198)) (.cons (.expr (.zl (.loc 3) 57 (.cons (.str [78,111,77,101,116,104,111,100,69,114,114,111,114]) (.cons (.bin .add (.str [117,110,100,101,102,105,110,101,100,32,109,101,116,104,111,100,32,39,110,101,119,39,32,102,111,114,32,99,108,97,115,115,32]) (.call (.zu 60) (.cons (.loc 2) .nil))) .nil)))) .nil) .nil) (.cons (.cond (.cmp .eq (.loc 78) (.str [83,116,114,105,110,103])) (.cons (.ret (.call (.zu 121) (.cons (.loc 17) (.cons (.loc 2) (.cons (.str []) .nil))))) .nil) .nil) (.cons (.cond (.cmp .eq (.loc 78) (.str [65,114,114,97,121])) (.cons (.ret (.call (.zu 150) (.cons (.loc 17) (.cons (.loc 2) (.cons (.lst .nil) .nil))))) .nil) .nil) (.cons (.cond (.cmp .eq (.loc 78) (.str [72,97,115,104])) (.cons (.ret (.call (.zu 153) (.cons (.loc 17) (.cons (.loc 2) .nil)))) .nil) .nil) (.cons (.cond (.cmp .eq (.loc 78) (.str [82,97,110,103,101])) (.cons (.ret (.call (.zu 152) (.cons (.loc 17) (.cons (.loc 2) .nil)))) .nil) .nil) (.cons (.cond (.cmp .eq (.loc 78) (.str [70,105,98,101,114])) (.cons (.ret (.call (.zu 205) (.cons (.loc 17) (.cons (.loc 2) .nil)))) .nil) .nil) (.cons (.cond (.cmp .eq (.loc 78) (.str [80,114,111,99])) (.cons (.ret (.call (.zu 149) (.cons (.loc 17) (.cons (.loc 2) .nil)))) .nil) .nil) (.cons (.cond (.cmp .eq (.loc 78) (.str [67,108,97,115,115])) (.cons (.ret (.call (.zu 44) (.cons (.loc 17) (.cons (.loc 2) (.cons .none (.cons (.bool JQ) (.cons (.zl (.loc 3) 38 (.cons (.str [79,98,106,101,99,116]) .nil)) .nil))))))) .nil) .nil) (.cons (.cond (.cmp .eq (.loc 78) (.str [77,111,100,117,108,101])) (.cons (.ret (.call (.zu 44) (.cons (.loc 17) (.cons (.loc 2) (.cons .none (.cons (.bool JT) .nil)))))) .nil) .nil) (.cons (.cond (.zl (.loc 3) 185 (.cons (.loc 2) .nil)) (.cons (.ret (.call (.zu 125) (.cons (.loc 17) (.cons (.loc 2) .nil)))) .nil) .nil) (.cons (.ret (.call (.zu 64) (.cons (.loc 17) (.cons (.loc 2) .nil)))) .nil)))))))))))))
noncomputable def aD:FD:=⟨[3,2],[],T_⟩
noncomputable def Ti:S:=(.cons (.while (.cmp .yS (.loc 2) .none) (.cons (.cond (.cmp .eq (.attr (.loc 2) 34) (.str [69,120,99,101,112,116,105,111,110])) (.cons (.ret (.bool JQ)) .nil) .nil) (.cons (.asg 2 (.attr (.loc 2) 11)) .nil))) (.cons (.ret (.bool JT)) .nil))
noncomputable def aK:FD:=⟨[3,2],[],Ti⟩
noncomputable def Tp:S:=(.cons (.ret (.call (.zu 125) (.cons (.zl (.loc 3) 17 .nil) (.cons (.zl (.loc 3) 38 (.cons (.loc 0) .nil)) (.cons (.zl (.loc 3) 62 (.cons (.loc 59) .nil)) .nil))))) .nil)
noncomputable def aO:FD:=⟨[3,0,59],[],Tp⟩
noncomputable def To:S:=(.cons (.raise (.call (.zu 139) (.cons (.zl (.loc 3) 136 (.cons (.loc 0) (.cons (.loc 59) .nil))) .nil))) .nil)
noncomputable def aN:FD:=⟨[3,0,59],[],To⟩
noncomputable def T6:S:=(.cons (.asg 123 (.wg (.kv (.str [66,97,115,105,99,79,98,106,101,99,116]) .none (.kv (.str [75,101,114,110,101,108]) .none (.kv (.str [79,98,106,101,99,116]) (.str [66,97,115,105,99,79,98,106,101,99,116]) (.kv (.str [77,111,100,117,108,101]) (.str [79,98,106,101,99,116]) (.kv (.str [67,108,97,115,115]) (.str [77,111,100,117,108,101]) .nil))))))) (.cons (.expr (.zl (.loc 123) 141 (.cons (.wg (.kv (.str [65]) (.str [79,98,106,101,99,116]) (.kv (.str [66]) (.str [65]) (.kv (.str [67]) (.str [65]) (.kv (.str [77]) .none (.kv (.str [78]) .none (.kv (.str [60,97,62]) (.str [65]) (.kv (.str [60,99,62]) (.str [66]) (.kv (.str [60,77,62]) (.str [77,111,100,117,108,101]) .nil))))))))) .nil))) (.cons (.expr (.zl (.loc 123) 141 (.cons (.wg (.kv (.str [60,66,97,115,105,99,79,98,106,101,99,116,62]) (.str [67,108,97,115,115]) (.kv (.str [60,79,98,106,101,99,116,62]) (.str [60,66,97,115,105,99,79,98,106,101,99,116,62]) (.kv (.str [60,65,62]) (.str [60,79,98,106,101,99,116,62]) (.kv (.str [60,66,62]) (.str [60,65,62]) (.kv (.str [60,67,62]) (.str [60,65,62]) .nil)))))) .nil))) (.cons (.asg 4 (.call (.zu 159) (.cons (.comp (.tup (.cons (.loc 0) (.cons (.lst (.cons (.sub (.loc 123) (.loc 0)) (.cons (.lst .nil) (.cons (.lst .nil) (.cons (.wg .nil) .nil))))) .nil))) [0] .plain (.loc 123) .nil) .nil))) (.cons (.expr (.zl (.sub (.sub (.loc 4) (.str [79,98,106,101,99,116])) (.int 2)) 30 (.cons (.str [75,101,114,110,101,108]) .nil))) (.cons (.ret (.loc 4)) .nil))))))
noncomputable def Zf:FD:=⟨[],[],T6⟩
noncomputable def T4:S:=(.cons (.yD [4,50] (.tup (.cons (.lst .nil) (.cons (.lst (.cons (.tup (.cons (.tup .nil) (.cons (.loc 0) .nil))) .nil)) .nil)))) (.cons (.while (.cmp .ne (.loc 50) (.lst .nil)) (.cons (.yD [32,5] (.zl (.loc 50) 69 .nil)) (.cons (.expr (.zl (.loc 4) 30 (.cons (.tup (.cons (.bin .add (.loc 32) (.tup (.cons (.int 1) .nil))) (.cons (.loc 5) .nil))) .nil))) (.cons (.for [51] .plain (.tup (.cons (.int 0) (.cons (.int 2) .nil))) (.cons (.asg 46 (.sub (.sub (.loc 7) (.loc 5)) (.bin .add (.int 1) (.bin .floordiv (.loc 51) (.int 2))))) (.cons (.for [12] .range (.call (.zu 31) (.cons (.loc 46) .nil)) (.cons (.expr (.zl (.loc 50) 30 (.cons (.tup (.cons (.bin .add (.loc 32) (.tup (.cons (.loc 51) (.cons (.bin .sub (.bin .sub (.call (.zu 31) (.cons (.loc 46) .nil)) (.int 1)) (.loc 12)) .nil)))) (.cons (.sub (.loc 46) (.loc 12)) .nil))) .nil))) .nil)) .nil))) .nil)))) (.cons (.ret (.call (.zu 199) (.cons (.loc 4) .nil))) .nil)))
noncomputable def Zd:FD:=⟨[7,0],[],T4⟩
noncomputable def T8:S:=(.cons (.asg 65 (.lst (.cons (.loc 0) .nil))) (.cons (.while (.cmp .yS (.sub (.sub (.loc 7) (.sub (.loc 65) (.neg 1))) (.int 0)) .none) (.cons (.expr (.zl (.loc 65) 30 (.cons (.sub (.sub (.loc 7) (.sub (.loc 65) (.neg 1))) (.int 0)) .nil))) .nil)) (.cons (.asg 22 (.lst .nil)) (.cons (.for [5] .plain (.oz (.loc 65)) (.cons (.asg 39 (.lst .nil)) (.cons (.for [32,10] .plain (.call (.zu 116) (.cons (.loc 7) (.cons (.loc 5) .nil))) (.cons (.cond (.and (.cons (.cmp .y9 (.loc 10) (.loc 39)) (.cons (.or (.cons (.cmp .eq (.sub (.loc 32) (.int 0)) (.int 0)) (.cons (.cmp .y9 (.loc 10) (.loc 22)) .nil))) .nil))) (.cons (.expr (.zl (.loc 39) 30 (.cons (.loc 10) .nil))) .nil) .nil) .nil)) (.cons (.asg 22 (.bin .add (.loc 39) (.comp (.loc 10) [10] .plain (.loc 22) (.cons (.cmp .y9 (.loc 10) (.loc 39)) .nil)))) .nil)))) (.cons (.ret (.loc 22)) .nil)))))
noncomputable def Zh:FD:=⟨[7,0],[],T8⟩
noncomputable def TA:S:=(.cons (.for [5] .plain (.loc 33) (.cons (.asg 13 (.zl (.sub (.sub (.loc 7) (.loc 5)) (.int 3)) 49 (.cons (.loc 8) .nil))) (.cons (.cond (.cmp .yS (.loc 13) .none) (.cons (.ret (.ite (.cmp .is (.sub (.loc 13) (.int 0)) .none) .none (.loc 13))) .nil) .nil) .nil))) (.cons (.ret .none) .nil))
noncomputable def Zj:FD:=⟨[7,33,8],[],TA⟩
noncomputable def T7:S:=(.cons (.cond (.cmp .eq (.loc 10) (.str [65])) (.cons (.ret (.str [84,121,112,101,69,114,114,111,114])) .nil) .nil) (.cons (.cond (.cmp .yQ (.loc 0) (.comp (.loc 5) [32,5] .plain (.call (.zu 116) (.cons (.loc 7) (.cons (.loc 10) .nil))) .nil)) (.cons (.ret (.str [65,114,103,117,109,101,110,116,69,114,114,111,114])) .nil) .nil) (.cons (.cond (.cmp .y9 (.loc 10) (.sub (.sub (.loc 7) (.loc 0)) (.loc 77))) (.cons (.expr (.zl (.sub (.sub (.loc 7) (.loc 0)) (.loc 77)) 30 (.cons (.loc 10) .nil))) .nil) .nil) (.cons (.ret (.str [])) .nil))))
noncomputable def Zg:FD:=⟨[7,0,10,77],[],T7⟩
noncomputable def TC:S:=(.cons (.yD [16,0,10,8,26,14,17] (.loc 28)) (.cons (.asg 19 (.sub (.sub (.loc 7) (.loc 0)) (.int 3))) (.cons (.cond (.cmp .lt (.loc 16) (.int 3)) (.cons (.y7 (.loc 19) (.loc 8) (.tup (.cons (.bin .add (.str [64]) (.call (.zu 70) (.cons (.loc 17) .nil))) (.cons (.loc 0) (.cons (.loc 14) (.cons (.loc 8) .nil)))))) (.cons (.ret (.str [])) .nil)) .nil) (.cons (.cond (.cmp .lt (.loc 16) (.int 6)) (.cons (.ret (.call (.zu 175) (.cons (.loc 7) (.cons (.loc 0) (.cons (.loc 10) (.cons (.ite (.cmp .eq (.loc 16) (.int 4)) (.int 1) (.int 2)) .nil)))))) .nil) .nil) (.cons (.asg 13 (.ite (.cmp .eq (.loc 16) (.int 6)) (.zl (.loc 19) 49 (.cons (.loc 8) .nil)) (.call (.zu 73) (.cons (.loc 7) (.cons (.call (.zu 54) (.cons (.loc 7) (.cons (.loc 0) .nil))) (.cons (.loc 8) .nil)))))) (.cons (.cond (.or (.cons (.cmp .is (.loc 13) .none) (.cons (.cmp .is (.sub (.loc 13) (.int 0)) .none) .nil))) (.cons (.cond (.or (.cons (.cmp .eq (.loc 16) (.int 6)) (.cons (.cmp .y9 (.loc 0) (.tup (.cons (.str [77]) (.cons (.str [78]) .nil)))) .nil))) (.cons (.ret (.str [78,97,109,101,69,114,114,111,114])) .nil) .nil) (.cons (.asg 13 (.call (.zu 73) (.cons (.loc 7) (.cons (.call (.zu 54) (.cons (.loc 7) (.cons (.str [79,98,106,101,99,116]) .nil))) (.cons (.loc 8) .nil))))) (.cons (.cond (.cmp .is (.loc 13) .none) (.cons (.ret (.str [78,97,109,101,69,114,114,111,114])) .nil) .nil) .nil))) .nil) (.cons (.cond (.cmp .eq (.loc 16) (.int 6)) (.cons (.expr (.zl (.loc 19) 69 (.cons (.loc 8) .nil))) .nil) (.cons (.cond (.cmp .eq (.loc 16) (.int 7)) (.cons (.y7 (.loc 19) (.loc 8) (.tup (.cons .none (.cons (.loc 0) (.cons (.str [112,117,98,108,105,99]) (.cons (.loc 8) .nil)))))) .nil) (.cons (.cond (.cmp .eq (.loc 16) (.int 8)) (.cons (.y7 (.loc 19) (.loc 26) (.loc 13)) .nil) (.cons (.cond (.or (.cons (.cmp .ne (.sub (.loc 13) (.int 2)) (.loc 14)) (.cons (.cmp .y9 (.loc 8) (.loc 19)) .nil))) (.cons (.y7 (.loc 19) (.loc 8) (.tup (.cons (.sub (.loc 13) (.int 0)) (.cons (.sub (.loc 13) (.int 1)) (.cons (.loc 14) (.cons (.sub (.loc 13) (.int 3)) .nil)))))) .nil) .nil) .nil)) .nil)) .nil)) (.cons (.ret (.str [])) .nil))))))))
noncomputable def Zl:FD:=⟨[7,28],[],TC⟩
noncomputable def TB:S:=(.cons (.yD [16,0,10,8,26,14,17] (.loc 28)) (.cons (.try (.cons (.cond (.and (.cons (.cmp .eq (.loc 16) (.int 5)) (.cons (.cmp .eq (.sub (.loc 0) (.int 0)) (.str [60])) .nil))) (.cons (.expr (.call (.zu 88) (.cons (.loc 1) (.cons (.sub (.loc 9) (.wX (.loc 0))) (.cons (.sub (.loc 9) (.loc 10)) .nil))))) (.cons (.ret (.str [])) .nil)) .nil) (.cons (.asg 2 (.ite (.cmp .eq (.sub (.loc 0) (.int 0)) (.str [60])) (.call (.zu 68) (.cons (.loc 1) (.cons (.sub (.loc 9) (.wX (.loc 0))) .nil))) (.sub (.loc 9) (.loc 0)))) (.cons (.cond (.cmp .lt (.loc 16) (.int 3)) (.cons (.expr (.call (.zu 140) (.cons (.loc 1) (.cons (.loc 2) (.cons (.call (.zu 95) (.cons (.loc 8) (.cons (.loc 2) (.cons (.str [114,101,97,100,101,114]) (.cons .none (.cons (.bin .add (.str [64]) (.call (.zu 70) (.cons (.loc 17) .nil))) (.cons (.loc 14) .nil))))))) .nil))))) .nil) (.cons (.cond (.cmp .eq (.loc 16) (.int 4)) (.cons (.expr (.call (.zu 143) (.cons (.loc 1) (.cons (.loc 2) (.cons (.sub (.loc 9) (.loc 10)) .nil))))) .nil) (.cons (.cond (.cmp .lt (.loc 16) (.int 6)) (.cons (.expr (.call (.zu 122) (.cons (.loc 1) (.cons (.loc 2) (.cons (.sub (.loc 9) (.loc 10)) .nil))))) .nil) (.cons (.cond (.cmp .eq (.loc 16) (.int 6)) (.cons (.expr (.call (.zu 142) (.cons (.loc 1) (.cons (.loc 2) (.cons (.loc 8) .nil))))) .nil) (.cons (.cond (.cmp .eq (.loc 16) (.int 7)) (.cons (.expr (.call (.zu 146) (.cons (.loc 1) (.cons (.loc 2) (.cons (.loc 8) .nil))))) .nil) (.cons (.cond (.cmp .eq (.loc 16) (.int 8)) (.cons (.expr (.call (.zu 137) (.cons (.loc 1) (.cons (.loc 2) (.cons (.loc 26) (.cons (.loc 8) .nil)))))) .nil) (.cons (.expr (.call (.zu 151) (.cons (.loc 1) (.cons (.loc 2) (.cons (.lst (.cons (.loc 8) .nil)) (.cons (.loc 14) .nil)))))) .nil)) .nil)) .nil)) .nil)) .nil)) .nil)) .nil))) 186 (.call (.zu 60) (.cons (.attr (.attr (.loc 186) 36) 18) .nil))) (.cons (.ret (.str [])) .nil)))
noncomputable def Zk:FD:=⟨[1,9,28],[],TB⟩
noncomputable def T3:S:=(.cons (.ret (.ite (.cmp .is (.loc 20) .none) .none (.tup (.cons (.attr (.loc 20) 63) (.cons (.call (.zu 60) (.cons (.attr (.loc 20) 18) .nil)) (.cons (.attr (.loc 20) 14) (.cons (.attr (.loc 20) 0) .nil))))))) .nil)
noncomputable def Zc:FD:=⟨[20],[],T3⟩
noncomputable def T1:S:=(.cons (.cond (.cmp .is (.loc 13) .none) (.cons (.ret .none) .nil) .nil) (.cons (.asg 135 (.zl (.wg (.kv (.str [60,97,62]) (.str [35,60,65,62]) (.kv (.str [60,99,62]) (.str [35,60,66,62]) .nil))) 49 (.cons (.sub (.loc 13) (.int 1)) (.cons (.wX (.sub (.loc 13) (.int 1))) .nil)))) (.cons (.ret (.tup (.cons (.sub (.loc 13) (.int 0)) (.cons (.ite (.cmp .eq (.sub (.sub (.loc 13) (.int 1)) (.int 0)) (.str [60])) (.bin .add (.bin .add (.str [35,60,67,108,97,115,115,58]) (.loc 135)) (.str [62])) (.sub (.loc 13) (.int 1))) (.cons (.sub (.loc 13) (.int 2)) (.cons (.sub (.loc 13) (.int 3)) .nil)))))) .nil)))
noncomputable def Za:FD:=⟨[13],[],T1⟩
noncomputable def T2:S:=(.cons (.asg 58 (.call (.zu 73) (.cons (.loc 7) (.cons (.loc 33) (.cons (.loc 8) .nil))))) (.cons (.cond (.cmp .is (.loc 58) .none) (.cons (.ret (.lst (.cons .none .nil))) .nil) .nil) (.cons (.asg 193 (.ite (.cmp .yQ (.sub (.loc 58) (.int 1)) (.loc 33)) (.qR (.loc 33) (.bin .add (.zl (.loc 33) 138 (.cons (.sub (.loc 58) (.int 1)) .nil)) (.int 1))) (.lst .nil))) (.cons (.ret (.lst (.cons (.loc 58) (.cons (.call (.zu 73) (.cons (.loc 7) (.cons (.loc 193) (.cons (.sub (.loc 58) (.int 3)) .nil)))) .nil)))) .nil))))
noncomputable def Zb:FD:=⟨[7,33,8],[],T2⟩
noncomputable def TG:S:=(.cons (.yD [2,33] (.tup (.cons (.zl (.loc 1) 105 (.cons (.loc 36) .nil)) (.cons (.call (.zu 54) (.cons (.loc 7) (.cons (.loc 0) .nil))) .nil)))) (.cons (.yD [56,20] (.tup (.cons (.call (.zu 172) (.cons (.loc 7) (.cons (.loc 33) (.cons (.loc 8) .nil)))) (.cons (.call (.zu 84) (.cons (.loc 1) (.cons (.loc 2) (.cons (.loc 8) .nil)))) .nil)))) (.cons (.asg 4 (.lst (.cons (.call (.zu 126) (.cons (.loc 20) .nil)) .nil))) (.cons (.cond (.cmp .yS (.loc 20) .none) (.cons (.expr (.zl (.loc 4) 30 (.cons (.call (.zu 126) (.cons (.call (.zu 180) (.cons (.loc 1) (.cons (.loc 2) (.cons (.attr (.loc 20) 18) (.cons (.attr (.loc 20) 0) .nil))))) .nil)) .nil))) .nil) .nil) (.cons (.cond (.cmp .ne (.loc 4) (.comp (.call (.zu 154) (.cons (.loc 13) .nil)) [13] .plain (.loc 56) .nil)) (.cons (.ret (.bool JT)) .nil) .nil) (.cons (.asg 113 (.comp (.call (.zu 144) (.cons (.loc 1) (.cons (.loc 36) (.cons (.loc 8) (.cons (.loc 91) .nil))))) [91] .plain (.tup (.cons (.bool JQ) (.cons (.bool JT) .nil))) .nil)) (.cons (.ret (.cmp .eq (.loc 113) (.lst (.cons (.cmp .yS (.sub (.loc 56) (.int 0)) .none) (.cons (.and (.cons (.cmp .yS (.sub (.loc 56) (.int 0)) .none) (.cons (.cmp .eq (.sub (.sub (.loc 56) (.int 0)) (.int 2)) (.str [112,117,98,108,105,99])) .nil))) .nil))))) .nil)))))))
noncomputable def Zn:FD:=⟨[1,36,7,0,8],[],TG⟩
noncomputable def T5:S:=(.cons (.ret (.comp (.loc 8) [8] .plain (.loc 19) (.cons (.and (.cons (.cmp .yS (.sub (.sub (.loc 19) (.loc 8)) (.int 0)) .none) (.cons (.cmp .ne (.sub (.sub (.loc 19) (.loc 8)) (.int 2)) (.str [112,114,105,118,97,116,101])) .nil))) .nil))) .nil)
noncomputable def Ze:FD:=⟨[19],[],T5⟩
noncomputable def T9:S:=(.cons (.for [5] .plain (.lst (.cons (.str [65]) (.cons (.str [66]) (.cons (.str [77]) (.cons (.str [78]) (.cons (.str [67,108,97,115,115]) (.cons (.str [79,98,106,101,99,116]) (.cons (.str [75,101,114,110,101,108]) .nil)))))))) (.cons (.cond (.cmp .ne (.call (.zu 130) (.cons (.loc 1) (.cons (.sub (.loc 9) (.wX (.loc 0))) (.cons (.sub (.loc 9) (.loc 5)) .nil)))) (.cmp .yQ (.loc 5) (.call (.zu 54) (.cons (.loc 7) (.cons (.loc 0) .nil))))) (.cons (.ret (.bool JT)) .nil) .nil) .nil)) (.cons (.ret (.bool JQ)) .nil))
noncomputable def Zi:FD:=⟨[1,9,7,0],[],T9⟩
noncomputable def TF:S:=(.cons (.asg 1 (.call (.zu 195) (.cons (.wg .nil) (.cons (.wg .nil) (.cons .none (.cons (.bin .pow (.int 10) (.int 6)) .nil)))))) (.cons (.asg 9 (.call (.zu 159) (.cons (.comp (.tup (.cons (.loc 0) (.cons (.zl (.loc 1) 38 (.cons (.loc 0) .nil)) .nil))) [0] .plain (.lst (.cons (.str [79,98,106,101,99,116]) (.cons (.str [67,108,97,115,115]) (.cons (.str [75,101,114,110,101,108]) .nil)))) .nil) .nil))) (.cons (.for [0,11] .plain (.lst (.cons (.tup (.cons (.str [65]) (.cons (.str [79,98,106,101,99,116]) .nil))) (.cons (.tup (.cons (.str [66]) (.cons (.str [65]) .nil))) .nil))) (.cons (.y7 (.loc 9) (.loc 0) (.zl (.loc 1) 55 (.cons (.loc 0) (.cons (.bool JQ) (.cons (.sub (.loc 9) (.loc 11)) .nil))))) .nil)) (.cons (.for [0] .plain (.lst (.cons (.str [77]) (.cons (.str [78]) .nil))) (.cons (.y7 (.loc 9) (.loc 0) (.zl (.loc 1) 55 (.cons (.loc 0) (.cons (.bool JT) .nil)))) .nil)) (.cons (.mO (.loc 9) (.str [97]) (.loc 9) (.str [99]) (.tup (.cons (.zl (.loc 1) 36 (.cons (.sub (.loc 9) (.str [65])) .nil)) (.cons (.zl (.loc 1) 36 (.cons (.sub (.loc 9) (.str [66])) .nil)) .nil)))) (.cons (.ret (.tup (.cons (.loc 1) (.cons (.loc 9) .nil)))) .nil))))))
noncomputable def Zm:FD:=⟨[],[],TF⟩
noncomputable def TH:S:=(.cons (.asg 25 (.bin .add (.comp (.bin .mod (.call (.zu 118) (.cons (.loc 15) .nil)) (.bin .pow (.int 10) (.int 7))) [15] .plain (.p0 (.loc 97) (.int 7)) .nil) (.bin .mul (.lst (.cons (.int 2) .nil)) (.call (.zu 45) (.cons (.cmp .eq (.loc 97) (.lst .nil)) .nil))))) (.cons (.yD [7,37] (.tup (.cons (.call (.zu 177) .nil) (.cons (.cmp .lt (.call (.zu 31) (.cons (.loc 25) .nil)) (.int 2)) .nil)))) (.cons (.yD [1,9] (.call (.zu 178) .nil)) (.cons (.for [12] .range (.call (.zu 31) (.cons (.loc 25) .nil)) (.cons (.cond (.cmp .eq (.loc 12) (.bin .floordiv (.call (.zu 31) (.cons (.loc 25) .nil)) (.int 2))) (.cons (.y7 (.loc 9) (.str [67]) (.zl (.loc 1) 55 (.cons (.str [67]) (.cons (.bool JQ) (.cons (.sub (.loc 9) (.str [65])) .nil))))) .nil) .nil) (.cons (.asg 15 (.bin .floordiv (.sub (.loc 25) (.loc 12)) (.int 10))) (.cons (.asg 29 (.bin .add (.lst (.cons (.str [60,65,62]) (.cons (.str [60,97,62]) (.cons (.str [60,66,62]) (.cons (.str [60,77,62]) (.cons (.str [65]) (.cons (.str [66]) (.cons (.str [60,99,62]) (.cons (.str [77]) .nil))))))))) (.bin .mul (.lst (.cons (.str [60,67,62]) (.cons (.str [67]) .nil))) (.call (.zu 45) (.cons (.cmp .yQ (.str [67]) (.loc 9)) .nil))))) (.cons (.yD [0,10] (.tup (.cons (.sub (.loc 29) (.bin .mod (.loc 15) (.call (.zu 31) (.cons (.loc 29) .nil)))) (.cons (.sub (.lst (.cons (.str [77]) (.cons (.str [78]) (.cons (.str [78]) (.cons (.str [65]) .nil))))) (.bin .mod (.bin .floordiv (.loc 15) (.int 10)) (.int 4))) .nil)))) (.cons (.yD [8,26,14] (.tup (.cons (.sub (.str [97,98,99]) (.bin .mod (.bin .floordiv (.loc 15) (.int 40)) (.int 3))) (.cons (.sub (.str [97,98,99]) (.bin .mod (.bin .floordiv (.loc 15) (.int 120)) (.int 3))) (.cons (.sub (.lst (.cons (.str [112,117,98,108,105,99]) (.cons (.str [112,114,105,118,97,116,101]) (.cons (.str [112,114,111,116,101,99,116,101,100]) .nil)))) (.bin .mod (.bin .floordiv (.loc 15) (.int 360)) (.int 3))) .nil))))) (.cons (.asg 28 (.tup (.cons (.bin .mod (.sub (.loc 25) (.loc 12)) (.int 10)) (.cons (.loc 0) (.cons (.loc 10) (.cons (.loc 8) (.cons (.loc 26) (.cons (.loc 14) (.cons (.loc 12) .nil))))))))) (.cons (.cond (.cmp .ne (.call (.zu 102) (.cons (.loc 1) (.cons (.loc 9) (.cons (.loc 28) .nil)))) (.call (.zu 101) (.cons (.loc 7) (.cons (.loc 28) .nil)))) (.cons (.ret (.bool JT)) .nil) .nil) (.cons (.asg 40 (.ite (.loc 37) (.lst (.cons (.str [60,66,62]) (.cons (.str [60,99,62]) .nil))) (.bin .add (.lst (.cons (.str [60,66,62]) (.cons (.str [60,99,62]) (.cons (.sub (.lst (.cons (.str [60,97,62]) (.cons (.str [60,77,62]) (.cons (.str [60,65,62]) .nil)))) (.bin .mod (.loc 12) (.int 3))) .nil)))) (.bin .mul (.lst (.cons (.str [60,67,62]) .nil)) (.call (.zu 45) (.cons (.cmp .yQ (.str [67]) (.loc 9)) .nil)))))) (.cons (.for [5] .plain (.loc 40) (.cons (.for [48] .plain (.ite (.loc 37) (.str [97]) (.str [97,98,99])) (.cons (.cond (.not (.call (.zu 75) (.cons (.loc 1) (.cons (.sub (.loc 9) (.wX (.loc 5))) (.cons (.loc 7) (.cons (.loc 5) (.cons (.loc 48) .nil))))))) (.cons (.ret (.bool JT)) .nil) .nil) .nil)) .nil)) (.cons (.cond (.and (.cons (.not (.loc 37)) (.cons (.not (.call (.zu 103) (.cons (.loc 1) (.cons (.loc 9) (.cons (.loc 7) (.cons (.sub (.loc 40) (.bin .mod (.loc 12) (.int 3))) .nil)))))) .nil))) (.cons (.ret (.bool JT)) .nil) .nil) .nil))))))))))) (.cons (.for [0] .plain (.lst (.cons (.str [65]) (.cons (.str [66]) (.cons (.str [77]) .nil)))) (.cons (.cond (.cmp .ne (.call (.zu 90) (.cons (.loc 1) (.cons (.sub (.loc 9) (.loc 0)) (.cons (.bool JT) .nil)))) (.call (.zu 92) (.cons (.sub (.sub (.loc 7) (.loc 0)) (.int 3)) .nil))) (.cons (.ret (.bool JT)) .nil) .nil) .nil)) (.cons (.ret (.cmp .eq (.call (.zu 90) (.cons (.loc 1) (.cons (.call (.zu 68) (.cons (.loc 1) (.cons (.sub (.loc 9) (.str [65])) .nil))) (.cons (.bool JT) .nil)))) (.call (.zu 92) (.cons (.sub (.sub (.loc 7) (.str [60,65,62])) (.int 3)) .nil)))) .nil))))))
noncomputable def Zo:FD:=⟨[97],[],TH⟩
noncomputable def vY:List (Nat×V):=[(75,.fn 972),(178,.fn 989),(101,.fn 939),(102,.fn 946),(73,.fn 927),(103,.fn 984),(54,.fn 920),(175,.fn 932),(177,.fn 908),(92,.fn 977),(116,.fn 915),(126,.fn 953),(172,.fn 967),(154,.fn 960),(181,.fn 380),(137,.fn 530),(165,.fn 523),(140,.fn 481),(67,.fn 432),(88,.fn 565),(84,.fn 446),(180,.fn 453),(117,.fn 439),(60,.fn 308),(129,.fn 420),(43,.fn 368),(122,.fn 551),(130,.fn 572),(148,.fn 495),(209,.fn 994),(81,.fn 392),(173,.fn 385),(90,.fn 584),(83,.fn 502),(127,.fn 544),(93,.fn 467),(82,.fn 375),(68,.fn 474),(204,.fn 577),(155,.fn 488),(143,.fn 558),(74,.fn 460),(142,.fn 516),(144,.fn 591),(85,.fn 274),(151,.fn 537),(160,.fn 361),(206,.fn 346),(145,.fn 267),(146,.fn 509),(64,.cl 40),(121,.cl 62),(150,.cl 82),(153,.cl 120),(152,.cl 140),(149,.cl 161),(125,.cl 181),(205,.cl 201),(44,.cl 228),(95,.cl 256),(108,.cl 404),(201,.cl 609),(139,.cl 629),(195,.cl 899),(31,.bi .len),(188,.bi .sum),(23,.bi .isinstance),(118,.bi .abs),(199,.bi .sorted),(112,.ty .bool),(45,.ty .int),(70,.ty .str),(194,.ty .list),(159,.ty .dict),(207,.ty .bx),(196,.ty .range),(203,.ty .enum),(168,.tup [.str [75,101,114,110,101,108],.str [67,111,109,112,97,114,97,98,108,101],.str [69,110,117,109,101,114,97,98,108,101]]),(198,.tup [.str [78,105,108,67,108,97,115,115],.str [84,114,117,101,67,108,97,115,115],.str [70,97,108,115,101,67,108,97,115,115],.str [73,110,116,101,103,101,114],.str [78,117,109,101,114,105,99],.str [83,121,109,98,111,108]]),(171,.ref 0),(133,.ref 1)]
noncomputable def fns:List (Nat×FD):=[(37,aR),(59,q5),(178,q8),(218,q6),(225,aS),(245,qA),(253,q9),(267,ZJ),(274,ZM),(308,Zu),(346,ZK),(361,px),(368,Zs),(375,ZU),(380,aC),(385,ZZ),(392,Z_),(420,Zt),(432,Zz),(439,Zv),(446,Zx),(453,Zw),(460,ZP),(467,ZV),(474,ZT),(481,a9),(488,ZR),(495,Zp),(502,ZX),(509,ZI),(516,ZO),(523,aA),(530,aB),(537,ZL),(544,ZW),(551,Zr),(558,ZQ),(565,Zy),(572,Zq),(577,ZS),(584,ZY),(591,ZN),(606,q7),(626,gC),(659,q4),(680,aI),(701,aQ),(706,aJ),(713,aM),(721,pz),(728,aP),(735,aG),(742,aH),(749,aF),(763,aE),(805,aD),(812,aK),(826,aO),(833,aN),(908,Zf),(915,Zd),(920,Zh),(927,Zj),(932,Zg),(939,Zl),(946,Zk),(953,Zc),(960,Za),(967,Zb),(972,Zn),(977,Ze),(984,Zi),(989,Zm),(994,Zo)]
noncomputable def xa:List (Nat×(Nat×Bool)):=[(40,(37,JT)),(62,(59,JT)),(82,(79,JT)),(120,(98,JT)),(140,(137,JT)),(161,(158,JT)),(181,(178,JT)),(201,(198,JT)),(228,(218,JT)),(256,(245,JT)),(404,(245,JT)),(609,(606,JQ)),(629,(626,JQ)),(899,(659,JT))]
noncomputable def meths:List (Nat×List (Nat×Nat)):=[(40,[(47,37)]),(62,[(47,59)]),(82,[(47,79)]),(120,[(47,98),(208,105),(46,112),(163,117)]),(140,[(47,137)]),(161,[(47,158)]),(181,[(47,178)]),(201,[(47,198)]),(228,[(47,218),(72,225)]),(256,[(47,245),(134,253)]),(404,[(47,245),(134,253)]),(609,[(47,606)]),(629,[(47,626)]),(899,[(47,659),(211,666),(212,673),(17,680),(227,687),(104,694),(38,701),(182,706),(147,713),(55,721),(100,728),(105,735),(176,742),(169,749),(226,756),(62,763),(215,770),(219,777),(214,784),(218,791),(210,798),(36,805),(185,812),(213,819),(136,826),(57,833),(228,840),(221,847),(217,854),(232,861),(234,868),(220,875),(216,882),(230,889),(233,896)])]
noncomputable def kR:List (Nat×List Nat):=[(40,[40]),(62,[62,40]),(82,[82,40]),(120,[120,40]),(140,[140,40]),(161,[161,40]),(181,[181,40]),(201,[201,40]),(228,[228,40]),(256,[256]),(404,[404,256]),(609,[609]),(629,[629,609]),(899,[899])]
noncomputable def uG{zi:Type}(x:Nat):List (Nat×zi)->Option zi|[]=>none|(y,v)::r=>match JG x y with|JQ=>JS v|JT=>uG x r
structure Prog where
 glob:Nat->Option V
 fn:Nat->Option FD
 cls:Nat->Option (Nat×Bool)
 zl:Nat->Nat->Option Nat
 sub:Nat->Nat->Bool
 su:Nat
noncomputable def prog : Prog where
  glob x := uG x vY
  fn a := uG a fns
  cls a := uG a xa
  zl c x := (uG c meths).bind fun l => uG x l
  sub c d := match uG c kR with | JS l => l.any (JG d) | none => JT
  su := 629
noncomputable def oN:List (List Nat×V):=[([66,97,115,105,99,79,98,106,101,99,116],.none),([79,98,106,101,99,116],.str [66,97,115,105,99,79,98,106,101,99,116]),([77,111,100,117,108,101],.str [79,98,106,101,99,116]),([67,108,97,115,115],.str [77,111,100,117,108,101]),([75,101,114,110,101,108],.none),([67,111,109,112,97,114,97,98,108,101],.none),([69,110,117,109,101,114,97,98,108,101],.none),([78,105,108,67,108,97,115,115],.str [79,98,106,101,99,116]),([84,114,117,101,67,108,97,115,115],.str [79,98,106,101,99,116]),([70,97,108,115,101,67,108,97,115,115],.str [79,98,106,101,99,116]),([78,117,109,101,114,105,99],.str [79,98,106,101,99,116]),([73,110,116,101,103,101,114],.str [78,117,109,101,114,105,99]),([83,116,114,105,110,103],.str [79,98,106,101,99,116]),([83,121,109,98,111,108],.str [79,98,106,101,99,116]),([65,114,114,97,121],.str [79,98,106,101,99,116]),([72,97,115,104],.str [79,98,106,101,99,116]),([82,97,110,103,101],.str [79,98,106,101,99,116]),([80,114,111,99],.str [79,98,106,101,99,116]),([70,105,98,101,114],.str [79,98,106,101,99,116]),([69,120,99,101,112,116,105,111,110],.str [79,98,106,101,99,116]),([83,99,114,105,112,116,69,114,114,111,114],.str [69,120,99,101,112,116,105,111,110]),([78,111,116,73,109,112,108,101,109,101,110,116,101,100,69,114,114,111,114],.str [83,99,114,105,112,116,69,114,114,111,114]),([83,121,115,116,101,109,83,116,97,99,107,69,114,114,111,114],.str [69,120,99,101,112,116,105,111,110]),([83,116,97,110,100,97,114,100,69,114,114,111,114],.str [69,120,99,101,112,116,105,111,110]),([65,114,103,117,109,101,110,116,69,114,114,111,114],.str [83,116,97,110,100,97,114,100,69,114,114,111,114]),([85,110,99,97,117,103,104,116,84,104,114,111,119,69,114,114,111,114],.str [65,114,103,117,109,101,110,116,69,114,114,111,114]),([70,105,98,101,114,69,114,114,111,114],.str [83,116,97,110,100,97,114,100,69,114,114,111,114]),([73,110,100,101,120,69,114,114,111,114],.str [83,116,97,110,100,97,114,100,69,114,114,111,114]),([75,101,121,69,114,114,111,114],.str [73,110,100,101,120,69,114,114,111,114]),([83,116,111,112,73,116,101,114,97,116,105,111,110],.str [73,110,100,101,120,69,114,114,111,114]),([76,111,99,97,108,74,117,109,112,69,114,114,111,114],.str [83,116,97,110,100,97,114,100,69,114,114,111,114]),([78,97,109,101,69,114,114,111,114],.str [83,116,97,110,100,97,114,100,69,114,114,111,114]),([78,111,77,101,116,104,111,100,69,114,114,111,114],.str [78,97,109,101,69,114,114,111,114]),([78,111,77,97,116,99,104,105,110,103,80,97,116,116,101,114,110,69,114,114,111,114],.str [83,116,97,110,100,97,114,100,69,114,114,111,114]),([78,111,77,97,116,99,104,105,110,103,80,97,116,116,101,114,110,75,101,121,69,114,114,111,114],.str [78,111,77,97,116,99,104,105,110,103,80,97,116,116,101,114,110,69,114,114,111,114]),([82,97,110,103,101,69,114,114,111,114],.str [83,116,97,110,100,97,114,100,69,114,114,111,114]),([82,117,110,116,105,109,101,69,114,114,111,114],.str [83,116,97,110,100,97,114,100,69,114,114,111,114]),([70,114,111,122,101,110,69,114,114,111,114],.str [82,117,110,116,105,109,101,69,114,114,111,114]),([84,121,112,101,69,114,114,111,114],.str [83,116,97,110,100,97,114,100,69,114,114,111,114]),([90,101,114,111,68,105,118,105,115,105,111,110,69,114,114,111,114],.str [83,116,97,110,100,97,114,100,69,114,114,111,114])]
noncomputable def nJ:List (List Nat×V):=[([79,98,106,101,99,116],.tup [.str [75,101,114,110,101,108]]),([78,117,109,101,114,105,99],.tup [.str [67,111,109,112,97,114,97,98,108,101]]),([83,116,114,105,110,103],.tup [.str [67,111,109,112,97,114,97,98,108,101]]),([83,121,109,98,111,108],.tup [.str [67,111,109,112,97,114,97,98,108,101]]),([65,114,114,97,121],.tup [.str [69,110,117,109,101,114,97,98,108,101]]),([72,97,115,104],.tup [.str [69,110,117,109,101,114,97,98,108,101]]),([82,97,110,103,101],.tup [.str [69,110,117,109,101,114,97,98,108,101]])]
open PySem PySem.W PySem.Calls PyProof.Rows
noncomputable abbrev FM:=Nat->Option J0
noncomputable abbrev OW:=J0->Option Nat
mutual
noncomputable def VR(f:FM)(C:OW)(h:Im):V->JM->Prop|.none,w=>w=.none|.bool b,w=>w=.bool b|.int i,w=>∃t,w=.int i t|.str s,w=>∃t,w=.str (tx s) t|.tup vs,w=>X4 λa items ep sl=>C4 (w=.ref a) (h.get? a=JS ⟨.type "tuple",none,.seq items ep,sl⟩) (C a=none) (zS f C h vs items.toList)|.ref n,w=>∃a,f n=JS a/\w=.ref a|.fn a,w=>w=.ref a|.cl a,w=>w=.ref a|.bi b,w=>w=.builtin b.id|.ty t,w=>w=.type t.id
noncomputable def zS(f:FM)(C:OW)(h:Im):List V->List JM->Prop|[],ws=>ws=[]|v::vs,ws=>X2 λw r=>C3 (ws=w::r) (VR f C h v w) (zS f C h vs r)
end
noncomputable def DR(P:Params)(f:FM)(C:OW)(h:Im):List (List Nat×V)->List Ig->Prop|[],ws=>ws=[]|(k,v)::es,ws=>X3 λt w r=>C3 (ws=⟨Fe P (tx k),.str (tx k) t,w⟩::r) (VR f C h v w) (DR P f C h es r)
noncomputable def FR(f:FM)(C:OW)(h:Im)(fs:List (Nat×V))(m:Str->Option JM):Prop:=∀x,(lk x fs=none->m (nm x)=none)/\∀v,lk x fs=JS v->∃w,m (nm x)=JS w/\VR f C h v w
noncomputable def r4(h:Im)(a:J0)(n:Nat)(m:Str->Option JM):Prop:=X3 λo es ep=>C5 (h.get? a=JS o) (o.data=.dict es ep) (StrKeys es) (∀name,nsFind es name=m name) (es.size<=n)
noncomputable def qK(f:FM)(C:OW)(h:Im)(n:Nat)(a:J0)(fs:List (Nat×V)):Option J0->Prop|none=>fs=[]|JS dx=>C3 (C dx=JS n) (dx≠a) (∃m,r4 h dx fs.length m/\FR f C h fs m)
noncomputable def bW(B:Im)(c:Nat):Prop:=X2 λo cd=>C5 (B.get? c=JS o) (o.data=.cls cd) (cd.mro.contains (.type "ValueError")=JQ) (cd.mro.contains (.type "BaseException")=JQ) (o.cls=.type "type")
noncomputable def mz(T:String)(items:Array JM)(ep:Nat):Obj:=⟨.type T,none,.seq items ep,#[]⟩
noncomputable def xu(ents:Array Ig)(ep:Nat):Obj:=⟨.type "dict",none,.dict ents ep,#[]⟩
theorem jj{a b:Array Ig}{c d:Nat}(h:JS (xu a c)=JS (xu b d)):a=b/\c=d:=by injection h with h;injection h with h1 h2 h3 h4;injection h3 with h5 h6;exact⟨h5,h6⟩
noncomputable def isTup(o:Option Obj):Prop:=X3 λitems ep sl=>o=JS ⟨.type "tuple",none,.seq items ep,sl⟩
noncomputable def tV(P:Params)(B:Im)(f:FM)(C:OW)(h:Im)(n:Nat):O→J0→Prop|.list xs,a=>C a=JS n∧X2 fun items ep=>h.get? a=JS ⟨.type "list",none,.seq items ep,#[]⟩∧zS f C h xs items.toList|.qE xs,a=>X3 fun items ep sl=>B.get? a=JS ⟨.type "list",none,.seq items ep,sl⟩∧zS f C h xs items.toList|.dict es,a=>C a=JS n∧X2 fun ents ep=>C3 (h.get? a=JS (xu ents ep)) (DR P f C h es ents.toList) ((es.map (·.1)).Nodup)|.v7 es,a=>X2 fun ents ep=>C3 (B.get? a=JS (xu ents ep)) (DR P f C h es ents.toList) (a≠sysModules)|.inst c fs,a=>C a=JS n∧X2 fun dx m=>C5 (C dx=JS n) (dx≠a) (h.get? a=JS ⟨.ref c,JS dx,.plain,#[]⟩) (r4 h dx fs.length m) (FR f C h fs m)|.exc c t fs,a=>C a=JS n∧X2 fun wO vs=>C3 (h.get? a=JS ⟨.ref c,wO,.fields vs,#[]⟩) (C3 (6≤vs.size) (t=JT→vs[1]?=JS .none) (bW B c)) (qK f C h n a fs wO)
structure Rel(P:Params)(B:Im)(z:FM)(f:FM)(C:OW)(J:St)(h:Im):Prop where
 base:∀b o,B.get? b=some o->h.get? b=some o
 fresh:∀b n,C b=some n->B.get? b=none
 alive:∀b n,C b=some n->∃o,h.get? b=some o
 qt:∀n a,f n=some a->n<J.length
 fix:∀n a,z n=some a->f n=some a
 objs:∀n o,J[n]?=some o->∃a,f n=some a/\tV P B f C h n o a
structure Ext(fr:List J0)(f:FM)(C:OW)(h:Im)(f':FM)(zm:OW)(h':Im):Prop where
 wG:∀n a,f n=some a->f' n=some a
 xO:∀b n,C b=some n->zm b=some n
 nD:∀b n,zm b=some n->C b=some n\/h.get? b=none
 live:∀b o,h.get? b=some o->∃o',h'.get? b=some o'
 keep:∀b o,h.get? b=some o->C b=none->b∉fr->o.cls≠.type "traceback"->h'.get? b=some o\/(o.cls=.type "frame"/\∃sl,h'.get? b=some {o with slots:=sl})
 tup:∀b,isTup (h.get? b)->C b=none->h'.get? b=h.get? b
noncomputable def grows(h h':Im):Prop:=∀b o,h.get? b=JS o->h'.get? b=JS o
section
variable{fr:List J0}{z f f' zB yg:FM}{C zm zD yk:OW}{h h' wL xP:Im}{P:Params}{B:Im}{J zy:St}
theorem grows.refl:grows h h:=λzz zz e=>e
theorem Ext.grow(g:grows h h'):Ext fr f C h f C h':=⟨λzz zz e=>e,λzz zz e=>e,λzz zz e=>.inl e,λb o e=>⟨o,g b o e⟩,λb o e zz zz zz=>.inl (g b o e),λb⟨zo,zY,zH,e⟩ya=>(g b _ e).trans e.symm⟩
theorem Ext.refl:Ext fr f C h f C h:=.grow grows.refl
theorem Ext.own(x:Ext fr f C h f' zm h'){b:J0}{o:Obj}(e:h.get? b=JS o)(n:C b=none):zm b=none:=J1.mpr λk q=>(x.nD b k q).elim (λz=>nomatch n.symm.trans z) λz=>nomatch e.symm.trans z
theorem Ext.trans(x:Ext fr f C h zB zD wL)(y:Ext fr zB zD wL yg yk xP):Ext fr f C h yg yk xP:=by
 refine⟨λn a e=>y.wG n a (x.wG n a e),λb n e=>y.xO b n (x.xO b n e),λb n e=>?_,λb o e=>let⟨o',e'⟩:=x.live b o e;y.live b o' e',λb o e n l_ ht=>?_,λb e n=>?_⟩;.refine(y.nD b n e).elim (x.nD b n) λz=>.inr (J1.mpr λo q=>?_);obtain⟨o',q'⟩:=x.live b o q;exact nomatch z.symm.trans q'
 .have hb:=x.own e n;rcases x.keep b o e n l_ ht with z|⟨hc,sl,z⟩;.exact y.keep b o z hb l_ ht
  .refine .inr ⟨hc,?_⟩;rcases y.keep b _ z hb l_ ht with z'|⟨_,sy,z'⟩;.exact⟨sl,z'⟩
   .exact⟨sy,z'⟩
 .have t:=x.tup b e n;obtain⟨i,ep,sl,q⟩:=id e;exact(y.tup b (t▸e) (x.own q n)).trans t
theorem Ext.mono{qq:List J0}(x:Ext fr f C h f' zm h')(hs:∀b∈fr,b∈qq):Ext qq f C h f' zm h':=⟨x.wG,x.xO,x.nD,x.live,λb o e n l_ ht=>x.keep b o e n (λq=>l_ (hs b q)) ht,x.tup⟩
structure vm(f:FM)(C:OW)(h:Im)(f':FM)(zm:OW)(h':Im):Prop where
 wG:∀n a,f n=some a->f' n=some a
 tup:∀b,isTup (h.get? b)->C b=none->h'.get? b=h.get? b/\zm b=none
theorem Ext.v(x:Ext fr f C h f' zm h'):vm f C h f' zm h':=⟨x.wG,λb e n=>⟨x.tup b e n,let⟨_,_,_,q⟩:=e;x.own q n⟩⟩
mutual
theorem VR.yn(x:vm f C h f' zm h'):∀(v:V){w:JM},VR f C h v w->VR f' zm h' v w|.none,zo,e|.bool zY,zH,e|.int ya,xk,e|.str vR,uV,e|.fn uB,s6,e|.cl kL,gq,e|.bi gp,bj,e|.ty bg,bf,e=>e|.tup vs,zo,⟨a,i,ep,sl,e1,e2,e3,e4⟩=>⟨a,i,ep,sl,e1,(x.tup a ⟨i,ep,sl,e2⟩ e3).1.trans e2,(x.tup a ⟨i,ep,sl,e2⟩ e3).2,zS.yn x vs e4⟩|.ref n,zo,⟨a,e1,e2⟩=>⟨a,x.wG n a e1,e2⟩
theorem zS.yn(x:vm f C h f' zm h'):∀(vs:List V){ws:List JM},zS f C h vs ws->zS f' zm h' vs ws|[],zo,e=>e|v::vs,zo,⟨w,r,e,e1,e2⟩=>⟨w,r,e,VR.yn x v e1,zS.yn x vs e2⟩
end
theorem DR.yn(x:vm f C h f' zm h'):∀(es:List (List Nat×V)){ws:List Ig},DR P f C h es ws->DR P f' zm h' es ws|[],zo,e=>e|(zo,v)::es,zY,⟨t,w,r,e,e1,e2⟩=>⟨t,w,r,e,VR.yn x v e1,DR.yn x es e2⟩
theorem FR.yn(x:vm f C h f' zm h'){fs:List (Nat×V)}{m:Str->Option JM}(e:FR f C h fs m):FR f' zm h' fs m:=λy=>⟨(e y).1,λv q=>let⟨w,a,b⟩:=(e y).2 v q;⟨w,a,VR.yn x v b⟩⟩
theorem VR.ext(x:Ext fr f C h f' zm h')(v:V){w:JM}(e:VR f C h v w):VR f' zm h' v w:=VR.yn x.v v e
theorem zS.ext(x:Ext fr f C h f' zm h')(vs:List V){ws:List JM}(e:zS f C h vs ws):zS f' zm h' vs ws:=zS.yn x.v vs e
theorem zS.length:∀{vs:List V}{ws:List JM},zS f C h vs ws->ws.length=vs.length|[],zo,e=>by cases e;rfl|zo::zY,zH,⟨ya,xk,e,vR,r⟩=>by subst e;exact congrArg (.+1) (zS.length r)
theorem zS.get:∀{vs:List V}{ws:List JM}(_:zS f C h vs ws){i:Nat}{v:V},vs[i]?=JS v->∃w,ws[i]?=JS w/\VR f C h v w|v::vs,zo,⟨w,r,e,a,b⟩,0,v',hi=>by subst e;cases hi;exact⟨w,rfl,a⟩|v::vs,zo,⟨w,r,e,a,b⟩,i+1,v',hi=>by subst e;exact zS.get b hi
theorem zS.append:∀{vs V1:List V}{ws Uk:List JM},zS f C h vs ws->zS f C h V1 Uk->zS f C h (vs++V1) (ws++Uk)|[],zo,zY,zH,e,e'=>by cases e;exact e'|zo::zY,zH,ya,xk,⟨w,r,e,a,b⟩,e'=>by subst e;exact⟨w,_,rfl,a,zS.append b e'⟩
theorem zS.single{v:V}{w:JM}(e:VR f C h v w):zS f C h [v] [w]:=⟨w,[],rfl,e,rfl⟩
theorem qK.to(x:vm f C h f' zm h')(xO:∀b n,C b=JS n->zm b=JS n){n:Nat}{a:J0}{fs:List (Nat×V)}(k:∀b o,h.get? b=JS o->C b=JS n->h'.get? b=JS o):∀{d:Option J0},qK f C h n a fs d->qK f' zm h' n a fs d|none,e=>e|JS zo,⟨w,ne,m,⟨o,es,ep,z,r,r',kc,ck⟩,t⟩=>⟨xO _ _ w,ne,m,⟨o,es,ep,k _ _ z w,r,r',kc,ck⟩,FR.yn x t⟩
theorem tV.to(x:vm f C h f' zm h')(xO:∀b n,C b=JS n->zm b=JS n){n:Nat}{a:J0}(k:∀b o,h.get? b=JS o->C b=JS n->h'.get? b=JS o):∀{o:O},tV P B f C h n o a->tV P B f' zm h' n o a|.list xs,⟨w,i,ep,g,r⟩=>⟨xO _ _ w,i,ep,k _ _ g w,zS.yn x _ r⟩|.qE xs,⟨i,ep,sl,g,r⟩=>⟨i,ep,sl,g,zS.yn x _ r⟩|.dict es,⟨w,i,ep,g,r,r'⟩=>⟨xO _ _ w,i,ep,k _ _ g w,DR.yn x _ r,r'⟩|.v7 es,⟨i,ep,g,r,r'⟩=>⟨i,ep,g,DR.yn x _ r,r'⟩|.inst c fs,⟨w,dx,m,w',ne,g,⟨o,es,ep,z,r,r',kc,ck⟩,t⟩=>⟨xO _ _ w,dx,m,xO _ _ w',ne,k _ _ g w,⟨o,es,ep,k _ _ z w',r,r',kc,ck⟩,FR.yn x t⟩|.exc c fl fs,⟨w,wO,vs,g,s,q⟩=>⟨xO _ _ w,wO,vs,k _ _ g w,s,qK.to x xO k q⟩
theorem Rel.to(r:Rel P B z f C J h)(x:vm f C h f' zm h')(xO:∀b n,C b=JS n->zm b=JS n)(bs:∀b o,B.get? b=JS o->h'.get? b=JS o)(fresh:∀b n,zm b=JS n->B.get? b=none)(alive:∀b n,zm b=JS n->∃o,h'.get? b=JS o)(qt:∀n a,f' n=JS a->n<zy.length)(objs:∀n o,zy[n]?=JS o->(J[n]?=JS o/\∀c p,h.get? c=JS p->C c=JS n->h'.get? c=JS p)\/∃a,f' n=JS a/\tV P B f' zm h' n o a):Rel P B z f' zm zy h':=⟨bs,fresh,alive,qt,λn a e=>x.wG n a (r.fix n a e),λn o e=>(objs n o e).elim (λ⟨q,k⟩=>let⟨a,fa,g⟩:=r.objs n o q;⟨a,x.wG n a fa,tV.to x xO k g⟩) id⟩
theorem Rel.rJ(r:Rel P B z f C J h)(x:vm f C h f C h')(bs:∀b o,B.get? b=JS o->h'.get? b=JS o)(k:∀n b o,h.get? b=JS o->C b=JS n->h'.get? b=JS o):Rel P B z f C J h':=r.to x (λzz zz e=>e) bs r.fresh (λb n e=>let⟨o,q⟩:=r.alive b n e;⟨o,k n b o q e⟩) r.qt λn zz e=>.inl ⟨e,k n⟩
theorem Rel.grow(r:Rel P B z f C J h)(g:grows h h'):Rel P B z f C J h':=r.rJ (Ext.grow (fr:=[]) g).v (λb o e=>g b o (r.base b o e)) λzz b o e zz=>g b o e
noncomputable def t9(f:FM)(n:Nat)(a:J0):FM:=λm=>if m=n then JS a else f m
noncomputable def ows(C:OW)(l:List J0)(n:Nat):OW:=λb=>if b∈l then JS n else C b
theorem t8{n:Nat}{a:J0}:t9 f n a n=JS a:=if_pos rfl
theorem tE{l:List J0}{n:Nat}{a:J0}(h:a∈l):ows C l n a=JS n:=if_pos h
theorem tD{l:List J0}{n:Nat}{a:J0}(h:a∉l):ows C l n a=C a:=if_neg h
theorem tq{h:Im}{a:J0}(ha:h.objs.size<=a):h.get? a=none:=J1.mpr λzz q=>absurd (I7 q) (GX.mpr ha)
theorem y0{zi:Type}{J:List zi}{n:Nat}{o:zi}(h:J[n]?=JS o):n<J.length:=(J9.mp h).1
theorem Rel.YE(r:Rel P B z f C J h)(g:grows h h'){l:List J0}{m:Nat}(hl:∀c∈l,C4 (C c=none) (B.get? c=none) (∃o,h'.get? c=JS o) (¬isTup (h.get? c))):Rel P B z f (ows C l m) J h'/\vm f C h f (ows C l m) h':=by
 obtain out:∀{c n},C c=JS n->c∉l:=λw q=>nomatch(hl _ q).1.symm.trans w;obtain x:vm f C h f (ows C l m) h':=⟨λzz zz e=>e,λb e n=>⟨let⟨_,_,_,q⟩:=e;(g b _ q).trans q.symm,(tD λq=>(hl b q).4 e).trans n⟩⟩;refine⟨r.to x (λb n w=>(tD (out w)).trans w) (λb o e=>g b o (r.base b o e)) (λb n w=>?_) (λb n w=>?_) r.qt λn o e=>.inl ⟨e,λc p e zz=>g c p e⟩,x⟩
 .by_cases q:b∈l;.exact(hl b q).2
  .exact r.fresh b n ((tD q).symm.trans w)
 .by_cases q:b∈l;.exact(hl b q).3
  .obtain⟨o,e⟩:=r.alive b n ((tD q).symm.trans w);exact⟨o,g b o e⟩
theorem i9(r:Rel P B z f C J h){a:J0}:∀n b,f n=JS b->t9 f J.length a n=JS b:=λn b e=>(if_neg (IP (r.qt n b e))).trans e
theorem Rel.add(r:Rel P B z f C J h){a:J0}{o:O}(e:tV P B (t9 f J.length a) C h J.length o a):Rel P B z (t9 f J.length a) C (J++[o]) h:=by
 refine r.to ⟨i9 r,λzz zz n=>⟨rfl,n⟩⟩ (λzz zz w=>w) r.base r.fresh r.alive (λn b w=>?_) λn o' w=>?_
 .rw[JO];by_cases q:n=J.length;.rw[q];exact Hq _
  .exact GF (r.qt n b ((if_neg q).symm.trans w))
 .rcases Nat.lt_or_ge n J.length with q|q;.exact .inl ⟨(Hu q).symm.trans w,λzz zz e zz=>e⟩
  .obtain hn:=y0 w;rw[JO]at hn;obtain this:n=J.length:=Eg (Nat.le_of_lt_succ hn) q;subst this;rw[I_ q,Hn]at w;cases w;exact .inr ⟨a,t8,e⟩
theorem Ext.new(r:Rel P B z f C J h)(g:grows h h'){a:J0}{l:List J0}(hl:∀c∈l,h.get? c=none):Ext fr f C h (t9 f J.length a) (ows C l J.length) h':=by
 obtain out:∀{c o},h.get? c=JS o->c∉l:=λe q=>nomatch(hl _ q).symm.trans e;refine⟨i9 r,λb n w=>?_,λb n w=>?_,λb o e=>⟨o,g b o e⟩,λb o e zz zz zz=>.inl (g b o e),λb⟨zo,zY,zH,e⟩ya=>(g b _ e).trans e.symm⟩;.obtain⟨o,e⟩:=r.alive b n w;exact(tD (out e)).trans w
 .by_cases q:b∈l;.exact .inr (hl b q)
  .exact .inl ((tD q).symm.trans w)
theorem Rel.push(r:Rel P B z f C J h)(g:grows h h'){a:J0}{l:List J0}{o:O}(hl:∀c∈l,h.get? c=none/\∃o,h'.get? c=JS o)(e:tV P B (t9 f J.length a) (ows C l J.length) h' J.length o a):Rel P B z (t9 f J.length a) (ows C l J.length) (J++[o]) h':=(r.YE g λc hc=>⟨J1.mpr λn w=>(let⟨_,q⟩:=r.alive c n w;(nomatch(hl c hc).1.symm.trans q)),J1.mpr λo q=>(nomatch(hl c hc).1.symm.trans (r.base c o q)),(hl c hc).2,λ⟨zo,zY,zH,q⟩=>nomatch(hl c hc).1.symm.trans q⟩).1.add e
theorem Ext.write{a:J0}{n:Nat}(hs:IC a h h')(w:C a=JS n)(al:∃o,h'.get? a=JS o):Ext fr f C h f C h':=by
 have ne:∀{c},C c=none->c≠a:=λq z=>by rw[z,w]at q;cases q
 refine⟨λzz zz e=>e,λzz zz e=>e,λzz zz e=>.inl e,λb o e=>?_,λb o e q zz zz=>.inl ((hs.2 b (ne q)).trans e),λb e q=>hs.2 b (ne q)⟩;by_cases q:b=a;.rw[q];exact al
 .exact⟨o,(hs.2 b q).trans e⟩
theorem Rel.write(r:Rel P B z f C J h){a b:J0}{n:Nat}{o:O}(hs:IC a h h')(w:C a=JS n)(al:∃o,h'.get? a=JS o)(fb:f n=JS b)(e:tV P B f C h' n o b):Rel P B z f C (J.set n o) h':=by
 obtain x:Ext [] f C h f C h':=Ext.write hs w al;refine r.to x.v (λzz zz w=>w) (λc oc ec=>(hs.2 c λz=>?_).trans (r.base c oc ec)) r.fresh (λc m ec=>?_) (λm c ec=>by rw[IB];exact r.qt m c ec) λm om em=>?_;.obtain this:=r.fresh a n w;rw[<-z,ec]at this;cases this
 .obtain⟨o',e'⟩:=r.alive c m ec;exact x.live c o' e'
 .by_cases q:m=n;.subst q;rw[II (r.qt m b fb)]at em;cases em;exact .inr ⟨b,fb,e⟩
  .rw[Hl (Hk q)]at em;exact .inl ⟨em,λc p ec wc=>(hs.2 c λz=>q (by rw[z,w]at wc;cases wc;rfl)).trans ec⟩
end
open PySem PySem.W PySem.Calls PyProof.Rows
structure Bc where
 prog:Program
 w:World
 B:Heap
 z:FM
 K:Frag
 X:List Nat
noncomputable abbrev Rl(b:Bc):=Rel b.w.params b.B b.z
noncomputable def vW(sc:Scope)(y:Str):Option NameKind:=sc.names.lookup y
noncomputable def WO(sc:Scope)(y:Str):Bool:=(vW sc y==JS .local||(vW sc y==JS .cell||vW sc y==JS .free))&&(!(y==("__debug__":Str))&&!(y==("__classdict__":Str)))
noncomputable def nE(sc:Scope)(y:Str):Bool:=vW sc y==JS .globalImplicit&&!(y==("__debug__":Str))
noncomputable def pP(sc:Scope)(y:Str):Bool:=vW sc y==JS .local
noncomputable def vq(sc:Scope)(y:Str):Bool:=pP sc y||vW sc y==JS .cell
noncomputable def wB(m:M):Bool:=!(m.ctorIdx==0||(8<=m.ctorIdx&&m.ctorIdx<=10))
noncomputable def qb(m:M):Bool:=wB m&&m.ctorIdx !=M.ctorIdx (.comp .nil [] .plain .nil .nil)
noncomputable def iO(m:M):Bool:=wB m&&m.ctorIdx !=M.ctorIdx (.call .nil .nil)
noncomputable def XX(m:M):Bool:=m.ctorIdx==6||m.ctorIdx==7
noncomputable def aY(out sc:Scope):Scope:={sc with names:=sc.names.map λ(n,k)=>if(k==.free&&out.kind==.function&&out.names.lookup n==JS .cell)then(n,.cell)else(n,k)}
noncomputable def isFree(out:Scope)(p:Str×NameKind):Bool:=(p.2==.free&&vW out p.1==JS .cell)||(p.2==.local||p.2==.globalImplicit)
noncomputable def WN(sc:Scope)(xs:List Nat)(p:Str×NameKind):Bool:=p.2 !=.local||(pP sc p.1&&(p.1==(".0":Str)||xs.any λx=>p.1==nm x))
noncomputable def d8(out sc:Scope)(xs:List Nat):Bool:=sc.names.all (WN sc xs)&&sc.kind==.function&&out.kind==.function&&!sc.isGenerator&&!sc.isCoroutine&&sc.names.all (isFree out)
noncomputable def rP(sc:Scope)(k:IK)(xs:List Nat):Bool:=xs.all (λx=>vq sc (nm x))&&(Ho 2 xs.length||(xs.length==1&&Ho k.ctorIdx 1))
noncomputable def d7(sc:Scope)(k:IK)(it:M)(zw:Pi):Bool:=wB it&&(match k with|.plain=>JQ|.range=>nE sc "range"|.enum=>nE sc "enumerate"|.items=>iO it&&JG (zw [2]).p.endLine (zw []).p.line)
section
variable(X:List Nat)
noncomputable def yy:M->Pi->Scope->Bool|.loc x,zo,sc=>WO sc (nm x)|.zu x,zo,sc=>nE sc (nm x)|.cons e es,zw,sc=>wB e&&(yy e (sh zw 0) sc&&yy es (sh zw 1) sc)|.kv k v r,zw,sc=>yy k (sh zw 0) sc&&(yy v (sh zw 1) sc&&yy r (sh zw 2) sc)|.tup es,zw,sc|.lst es,zw,sc|.and es,zw,sc|.or es,zw,sc=>yy es (sh zw 0) sc|.wg kvs,zw,sc=>Ho (mn kvs (sh zw 0)).length 15&&yy kvs (sh zw 0) sc|.attr e x,zw,sc=>X.contains x&&(iO e&&yy e (sh zw 0) sc)|.sub e i,zw,sc=>wB i&&(yy e (sh zw 0) sc&&yy i (sh zw 1) sc)|.qR e i,zw,sc|.p0 e i,zw,sc=>yy e (sh zw 0) sc&&yy i (sh zw 2) sc|.oz e,zw,sc|.wX e,zw,sc|.not e,zw,sc=>yy e (sh zw 0) sc|.call f args,zw,sc=>XX f&&(yy f (sh zw 0) sc&&yy args (sh zw 1) sc)|.zl o x args,zw,sc=>(X.contains x&&iO o&&JG (zw [2]).p.endLine (zw []).p.line&&Ho (xW args (sh zw 1)).length 20)&&(yy o (sh zw 0) sc&&yy args (sh zw 1) sc)|.bin zo a b,zw,sc=>yy a (sh zw 0) sc&&yy b (sh zw 1) sc|.cmp zo a b,zw,sc=>wB b&&(yy a (sh zw 0) sc&&yy b (sh zw 1) sc)|.ite c a b,zw,sc=>yy c (sh zw 0) sc&&(yy a (sh zw 1) sc&&yy b (sh zw 2) sc)|.comp elt xs k it yd,zw,sc=>(d8 sc (zw []).sc xs&&(rP (zw []).sc k xs&&d7 sc k it (sh zw 2)))&&(yy it (sD (sh zw 2) k) sc&&(yy elt (sh zw 0) (aY sc (zw []).sc)&&yy yd (sh zw 3) (aY sc (zw []).sc)))|zo,zY,zH=>JQ
noncomputable def d6(m:M)(zw:Pi):Bool:=m.ctorIdx !=M.ctorIdx (.tup .nil)||!(xW m (sh zw 0)).all (constantsAlone 8)
noncomputable def uD:S->Pi->Scope->Bool|.cons s r,zw,sc=>uD s (sh zw 0) sc&&uD r (sh zw 1) sc|.expr e,zw,sc=>qb e&&yy X e (sh zw 0) sc|.ret e,zw,sc|.raise e,zw,sc=>yy X e (sh zw 0) sc|.asg x e,zw,sc=>vq sc (nm x)&&(wB e&&yy X e (sh zw 1) sc)|.yD xs e,zw,sc=>(xs.all (λx=>vq sc (nm x))&&Ho 2 xs.length&&qb e&&d6 e (sh zw 1))&&yy X e (sh zw 1) sc|.zC o x e,zw,sc=>(X.contains x&&wB e)&&(yy X o (sh (sh zw 0) 0) sc&&yy X e (sh zw 1) sc)|.y7 o i e,zw,sc=>(wB i&&qb e)&&(yy X o (sh (sh zw 0) 0) sc&&(yy X i (sh (sh zw 0) 1) sc&&yy X e (sh zw 1) sc))|.mO o i o' i' e,zw,sc=>(wB i&&wB i'&&qb e&&d6 e (sh zw 1))&&(yy X o (sh (sh (sh (sh zw 0) 0) 0) 0) sc&&(yy X i (sh (sh (sh (sh zw 0) 0) 0) 1) sc&&(yy X o' (sh (sh (sh (sh (sh zw 0) 0) 1) 0) 0) sc&&(yy X i' (sh (sh (sh (sh (sh zw 0) 0) 1) 0) 1) sc&&yy X e (sh zw 1) sc))))|.qG o x e,zw,sc=>X.contains x&&(yy X o (sh (sh zw 0) 0) sc&&yy X e (sh zw 1) sc)|.cond c a b,zw,sc=>yy X c (sh zw 0) sc&&(uD a (sh zw 1) sc&&uD b (sh zw 2) sc)|.while c b,zw,sc=>yy X c (sh zw 0) sc&&uD b (sh zw 1) sc|.for xs k it b,zw,sc=>(rP sc k xs&&d7 sc k it (sh zw 1))&&(yy X it (sD (sh zw 1) k) sc&&uD b (sh zw 2) sc)|.try b x h,zw,sc=>(nE sc "Raised"&&pP sc (nm x))&&(uD b (sh zw 0) sc&&yy X h (sh (sh (sh zw 2) 0) 0) sc)|zo,zY,zH=>JQ
end
theorem zh{a b:Bool}(h:(a&&b)=JQ):a=JQ/\b=JQ:=(IW a b).mp h
noncomputable def mR(b:Bc)(v:V)(w:JM):Prop:=∀f C h,(∀n a,b.z n=JS a->f n=JS a)->(∀c o,b.B.get? c=JS o->C c=none/\h.get? c=JS o)->VR f C h v w
structure gi(b:Bc):Prop where
 at_:X2 λmg mb=>C3 (b.B.Ns mainGlobals mg) (b.B.Ns builtinsNs mb) (∀x v,prog.glob x=some v->∃w,(mg (nm x)=some w\/(mg (nm x)=none/\mb (nm x)=some w))/\mR b v w)
structure vB(b:Bc)(a:J0)(fd:FD):Prop where
 at_:X3 λ(o:Obj)(d:FuncData)(body:List Stmt)=>U9 (b.B.get? a=some o) (o.data=.func d) (d.body=.stmts body) (d.closure=[]) (d.globals=mainGlobals) (d.builtins=builtinsNs) (b.B.CodeRec d.code d.qualname) (d.scope.kind=.function) (d.scope.isCoroutine=false) (d.scope.isGenerator=false) (body=uX fd.body (qY body)) (C3 (uD b.X fd.body (qY body) d.scope=true) (fd.params.all (λx=>vq d.scope (nm x))=true) (∃dv:List Value,(∀f C h,(∀n a,b.z n=some a->f n=some a)->(∀c o,b.B.get? c=some o->C c=none/\h.get? c=some o)->zS f C h fd.dflt dv)/\∀(vals:List Value)(s:Shared),(∀c o,b.B.get? c=some o->s.heap.get? c=some o)->vals.length<=fd.params.length->fd.params.length<=vals.length+fd.dflt.length->BindsTo s d ⟨vals,[]⟩ ((fd.params.map nm).zip (vals++dv.drop (fd.dflt.length-(fd.params.length-vals.length))))))
noncomputable def ClsRec(b:Bc)(c f:Nat):Prop:=∀h:Im,(∀x o,b.B.get? x=JS o->h.get? x=JS o)->C3 (Makes (model b.prog b.w) h c) (Looks (model b.prog b.w) h (typeLookup (.ref c) "__init__") (JS (.ref f))) (∀self,Looks (model b.prog b.w) h (bindSpecial (.ref f) self) (.ref f,[self]))
noncomputable def mT(u7 bm:List JM):Prop:=∀(X:String)(b:Bool),u7.contains (.type X)=b->bm.contains (.type X)=b
noncomputable def kJ(b:Bc)(c fi:Nat):Prop:=∃(nm q:Str)(N:J0)(bs bm u7:List JM)(nz:Bool)(sn:List Str)(sub:List JM)(ab:Bool)(col:Option Bool)(dd:Option J0)(k0 k1 k2 k3 k5:Option JM)(T newId nX:String)(mN:Str->Option JM)(fo:Obj),C8 (ExcBaseFacts T newId nX u7) (mT u7 bm) (b.B.get? c=JS (excClassObj nm q c N bs bm nz sn sub ab col dd k0 k1 k2 k3 k5 newId)) (b.B.Ns N mN) (mN "__init__"=JS (.ref fi)) (b.B.get? fi=JS fo) (fo.cls=.type "function") (bm.contains (.type "ValueError")=JQ)
noncomputable def adr:JM->Nat|.ref a=>a|_=>0
noncomputable def ki:List JM->Bool|[]=>JT|v::r=>(v::r)==[.type "object"]||((v::r)==[.type "ValueError",.type "Exception",.type "BaseException",.type "object"]||(v==.ref (adr v)&&ki r))
noncomputable def ud(c:Nat):Prop:=(prog.cls c).isSome=JQ
noncomputable def qW(c:Nat):Prop:=∃i,prog.cls c=JS (i,JT)
structure Facts(b:Bc):Prop where
 yQ:b.K.In b.B
 ga:∀c,ud c->findIn b.K (.ref c) "__getattribute__"=some (some (.builtin "object.__getattribute__"))\/(findIn b.K (.ref c) "__getattribute__"=some (some (.builtin "BaseException.__getattribute__"))/\mroIn b.K c (.type "BaseException")=some true)
 gx:∀c,ud c->findIn b.K (.ref c) "__getattr__"=some none
 sa:∀c,ud c->findIn b.K (.ref c) "__setattr__"=some (some (.builtin "object.__setattr__"))
 cd:∀c,ud c->∃cd,C4 (clsIn b.K c=some cd) (cd.hasDict=true) (ki cd.mro=true) (cd.mro.isEmpty=false)
 dF:∀c x,ud c->b.X.contains x=true->prog.zl c x=none->findIn b.K (.ref c) (nm x)=some none
 zl:∀c x f,prog.zl c x=some f->b.X.contains x=true->C3 (ud c) (findIn b.K (.ref c) (nm x)=some (some (.ref f))) (typeIn b.K (.ref f)=some (.type "function"))
 reads:∀c x f,prog.zl c x=some f->b.X.contains x=true->C3 (readsIn b.K c (.type "type")=true) (findCls b.K (.ref c) (.type "type") (nm x)=some (.val (.ref f))) (specialIn b.K (.ref c) "__getattribute__"=some (some (.builtin "type.__getattribute__")))
 yes:∀D zP,qW D->ud zP->prog.sub D zP=true->isIn b.K (.ref D) zP=true
 no:∀D zP,qW D->ud zP->prog.sub D zP=false->kin_not b.K D zP=true
 cy:∀D,qW D->C4 (plainGet b.K D "__class__"=true) (hasDictIn b.K D=true) (findIn b.K (.ref D) "__class__"=some (some (.builtin "object.__class__"))) (mroIn b.K D (.type "object")=some true)
 gs:specialIn b.K (.builtin "object.__class__") "__get__"=some (some (.builtin "getset_descriptor.__get__"))/\takesIn b.K (.builtin "object.__class__")=some true
 pl:∀zP,ud zP->C4 (isNotIn b.K "int" zP=true) (isNotIn b.K "str" zP=true) (isNotIn b.K "bool" zP=true) (isNotIn b.K "NoneType" zP=true)
 nt:∀D,qW D->C3 (kin_notT b.K D "int"=true) (kin_notT b.K D "str"=true) (kin_notT b.K D "bool"=true)
 Yb:∀c,prog.sub c prog.su=true->exmOne b.K (.ref c) (.ref prog.su)=some true
 glob:gi b
 sys:b.B.get? sysModules≠none
 XE:∀a,(prog.fn a).isSome=true->keepIn b.K (.ref a)=true
 XF:∀a,ud a->keepIn b.K (.ref a)=true
 fns:∀a fd,prog.fn a=some fd->C3 (vB b a fd) fd.params.Nodup (fd.params.length<=1000)
 cls:∀c fi,prog.cls c=some (fi,false)->ClsRec b c fi
 exc:∀c fi,prog.cls c=some (fi,true)->kJ b c fi
 range:∃x,nm x=("range":Str)/\prog.glob x=some (.ty .range)
 enum:∃x,nm x=("enumerate":Str)/\prog.glob x=some (.ty .enum)
 su:∃x,nm x=("Raised":Str)/\prog.glob x=some (.cl prog.su)
structure Fr where
 b:Bc
 q:Bool
 s:Bool
 d:Nat
structure Done(F:Fr)(fr:List J0)(f:FM)(C:OW)(s:JI)(zy:St)(f':FM)(zm:OW)(s':JI):Prop where
 ext:Ext fr f C s.heap f' zm s'.heap
 rel:Rl F.b f' zm zy s'.heap
 gens:s'.gens=s.gens
 os:s'.os=s.os
 uM:F.s=true->∀c n o,C c=some n->s.heap.get? c=some o->s'.heap.get? c=some o
noncomputable def bR(b:Bc)(C:OW)(h:Im)(e:J0)(vs:Array JM):Prop:=X4 λT oT ts x=>C8 (vs[1]?=JS (.ref T)) (T≠e) (h.get? T=JS oT) (oT.cls=.type "traceback") (oT.data=.fields ts) (ts[3]?=JS x) (b.B.get? T=none) (C T=none)
noncomputable def oV(b:Bc)(C:OW)(h:Im)(e:J0):Prop:=X2 λoe vs=>C4 (h.get? e=JS oe) (oe.data=.fields vs) (6<=vs.size) (vs[1]?=JS .none\/bR b C h e vs)
noncomputable def qJ(F:Fr){yM:Type}(rv:FM->OW->Im->yM->Prop)(f:FM)(C:OW)(s:JI)(zy:St)(c:yM)(s':JI):Prop:=X2 λf' zm=>Done F [] f C s zy f' zm s'/\rv f' zm s'.heap c
noncomputable def mU(F:Fr)(f:FM)(C:OW)(s:JI)(e:V)(zy:St)(x:JM)(s':JI):Prop:=X4 λn a c fs=>C4 (e=.ref n) (x=.ref a) (zy[n]?=JS (.exc c JQ fs)) (qJ F (λf' zm h'(zz:Unit)=>f' n=JS a/\oV F.b zm h' a) f C s zy () s')
noncomputable def PO(F:Fr){zi yM:Type}(rv:FM->OW->Im->zi->yM->Prop)(f:FM)(C:OW)(s:JI):R zi->yM->JI->Prop|.ok v zy,c,s'=>qJ F (rv . . . v) f C s zy c s'|.exc zo zY,zH,ya=>False
noncomputable def PX(F:Fr){zi:Type}(f:FM)(C:OW)(s:JI):R zi->JM->JI->Prop|.ok zo zY,zH,ya=>False|.exc e zy,x,s'=>mU F f C s e zy x s'
noncomputable def W(F:Fr)(A:Ip){zi yM:Type}(t:Sem yM)(rv:FM->OW->Im->zi->yM->Prop)(f:FM)(C:OW)(s:JI)(out:R zi):Prop:=wpAny (model F.b.prog F.b.w) A t (PO F rv f C s out) (PX F f C s out) s
noncomputable def sb(env:Env):String:=if env.func.isSome then "frame"else "dict"
noncomputable def r5(h:Im)(a:J0)(c:JM)(m:Str->Option JM):Prop:=X3 λo es ep=>C5 (h.get? a=JS o) (o.cls=c) (o.data=.dict es ep) (StrKeys es) (∀name,nsFind es name=m name)
theorem r5.ns{h:Im}{a:J0}{c:JM}{m:Str->Option JM}(x:r5 h a c m):h.Ns a m:=let⟨o,es,ep,e,_,d,k,f⟩:=x;⟨o,es,ep,e,d,k,f⟩
structure yj(f:FM)(C:OW)(h:Im)(env:Env)(L:Loc):Prop where
 kind:env.scope.kind=.function
 glob:env.globals=mainGlobals
 blt:env.builtins=builtinsNs
 own:C env.locals=none
 has:∀n,env.kindOf n=some .cell->∃c,env.cells.lookup n=some c
 loc:∃m,r5 h env.locals (.type (sb env)) m/\∀x v,lk x L=some v->env.kindOf (nm x)=some .local->∃w,m (nm x)=some w/\VR f C h v w
 cells:∀n c,(n,c)∈env.cells->C c=none/\∃u,h.get? c=some ⟨.type "cell",none,.cell u,#[]⟩
 cell:∀x v,lk x L=some v->(env.kindOf (nm x)=some .cell\/env.kindOf (nm x)=some .free)->X2 λc w=>C3 (env.cells.lookup (nm x)=some c) (h.get? c=some ⟨.type "cell",none,.cell (some w),#[]⟩) (VR f C h v w)
structure xV(F:Fr)(A:Ip)(C:OW)(h:Im):Prop where
 depth:A.depth+3*F.d+20<=recursionLimit
 units:A.units+10*F.d+200<=cLine
 nG:F.b.B.NoLimit
 ok:Facts F.b
 hand:F.q=false->A.handled=none
 frames:∃l,C3 (A.frames=some l) (h.FunFrames F.b.B l) (∀env∈l,∀L,env.frame=some L->C L=none/\∃o,h.get? L=some o/\o.cls=.type "frame")
structure Cx(F:Fr)(L:Loc)(J:St)(env:Env)(A:Ip)(f:FM)(C:OW)(s:JI):Prop where
 rel:Rl F.b f C J s.heap
 en:yj f C s.heap env L
 ak:xV F A C s.heap
section
variable{F:Fr}{fr:List J0}{f f' zB:FM}{C zm zD:OW}{h h':Im}{s s' zd:JI}{J zy zt:St}{A:Ip}{env:Env}{L:Loc}
theorem Done.grow(r:Rl F.b f C J s.heap)(g:grows s.heap s'.heap)(hg:s'.gens=s.gens)(ho:s'.os=s.os):Done F fr f C s J f C s':=⟨Ext.grow g,r.grow g,hg,ho,λzz c zz o zz e=>g c o e⟩
theorem Done.toks(r:Rl F.b f C J s.heap){t:Nat}:Done F fr f C s J f C {s with toks:=t}:=Done.grow r grows.refl rfl rfl
theorem Done.refl(r:Rl F.b f C J s.heap):Done F fr f C s J f C s:=Done.grow r grows.refl rfl rfl
theorem Done.trans(x:Done F fr f C s zt zB zD zd)(y:Done F fr zB zD zd zy f' zm s'):Done F fr f C s zy f' zm s':=⟨x.ext.trans y.ext,y.rel,y.gens.trans x.gens,y.os.trans x.os,λq c n o w e=>y.uM q c n o (x.ext.xO c n w) (x.uM q c n o w e)⟩
theorem Done.mono{qq:List J0}(d:Done F fr f C s zy f' zm s')(hs:∀b∈fr,b∈qq):Done F qq f C s zy f' zm s':=⟨d.ext.mono hs,d.rel,d.gens,d.os,d.uM⟩
theorem Done.wide{qq:List J0}(d:Done F [] f C s zy f' zm s'):Done F qq f C s zy f' zm s':=d.mono λzz h=>nomatch h
theorem qJ.from{yM:Type}{rv:FM->OW->Im->yM->Prop}{c:yM}(d:Done F [] f C s zt zB zD zd)(p:qJ F rv zB zD zd zy c s'):qJ F rv f C s zy c s':=let⟨f',zm,d',r⟩:=p;⟨f',zm,d.trans d',r⟩
theorem mU.from{e:V}{x:JM}(d:Done F [] f C s zt zB zD zd)(p:mU F zB zD zd e zy x s'):mU F f C s e zy x s':=let⟨n,a,c,fs,e1,e2,e3,p⟩:=p;⟨n,a,c,fs,e1,e2,e3,qJ.from d p⟩
theorem PO.from{zi yM:Type}{rv:FM->OW->Im->zi->yM->Prop}{out:R zi}{c:yM}(d:Done F [] f C s zt zB zD zd)(p:PO F rv zB zD zd out c s'):PO F rv f C s out c s':=by cases out with|ok v=>exact qJ.from (rv:=(rv . . . v)) d p|exc=>exact p
theorem PX.from{zi:Type}{out:R zi}{x:JM}(d:Done F [] f C s zt zB zD zd)(p:PX F zB zD zd out x s'):PX F f C s out x s':=by cases out with|ok=>exact p|exc=>exact mU.from d p
theorem W.from{zi yM:Type}{t:Sem yM}{rv:FM->OW->Im->zi->yM->Prop}{out:R zi}(d:Done F [] f C s zt zB zD zd)(p:W F A t rv zB zD zd out):wpAny (model F.b.prog F.b.w) A t (PO F rv f C s out) (PX F f C s out) zd:=JC p (λzz zz=>PO.from d) λzz zz=>PX.from d
theorem seq{zi xJ yM qN:Type}{m:Sem yM}{k:yM->Sem qN}{out:R xJ}{v:zi}{rv:FM->OW->Im->zi->yM->Prop}{rw:FM->OW->Im->xJ->qN->Prop}(h1:W F A m rv f C s (.ok v zt))(h2:∀c f' zm s',Done F [] f C s zt f' zm s'->rv f' zm s'.heap v c->W F A (k c) rw f' zm s' out):W F A (m>>=k) rw f C s out:=JR (JC h1 (λc zd⟨f',zm,d,r⟩=>(h2 c f' zm zd d r).from d) λzz zz x=>x.elim)
theorem wA{zi yM:Type}{rv:FM->OW->Im->zi->yM->Prop}{v:zi}{c:yM}(r:Rl F.b f C J s.heap)(h:rv f C s.heap v c):PO F rv f C s (.ok v J) c s:=⟨f,C,Done.refl r,h⟩
theorem xp{zi yM:Type}{rv:FM->OW->Im->zi->yM->Prop}{v:zi}{c:yM}{t:Nat}(r:Rl F.b f C J s.heap)(h:rv f C s.heap v c):PO F rv f C s (.ok v J) c {s with toks:=t}:=⟨f,C,Done.toks r,h⟩
theorem W.pure{zi yM:Type}{rv:FM->OW->Im->zi->yM->Prop}{v:zi}{c:yM}(r:Rl F.b f C J s.heap)(h:rv f C s.heap v c):W F A (Pure.pure c) rv f C s (.ok v J):=JL (wA r h)
theorem r5.moves{a:J0}{c:JM}{m:Str->Option JM}(n:r5 h a c m)(k:∀o,h.get? a=JS o->o.cls=c->∃sl,h'.get? a=JS {o with slots:=sl}):r5 h' a c m:=by obtain⟨o,es,ep,e1,e2,e3,e4,e5⟩:=n;obtain⟨sl,e⟩:=k o e1 e2;exact⟨_,es,ep,e,e2,e3,e4,e5⟩
theorem aq{c:J0}{u:Option JM}(x:Ext [] f C h f' zm h')(e:h.get? c=JS ⟨.type "cell",none,.cell u,#[]⟩)(n:C c=none):h'.get? c=JS ⟨.type "cell",none,.cell u,#[]⟩:=by
 rcases x.keep _ _ e n (by simp) (λq=>absurd (show I' "cell"=.type "traceback"from q) (by decide))with z|⟨q,_⟩;.exact z
 .exact absurd (show I' "cell"=.type "frame"from q) (by decide)
theorem yj.ext(x:Ext [] f C h f' zm h')(e:yj f C h env L):yj f' zm h' env L:=by
 obtain⟨m,n,e6⟩:=e.loc;obtain⟨o,_,_,e1,_⟩:=id n;refine⟨e.kind,e.glob,e.blt,x.own e1 e.own,e.has,⟨m,n.moves λo g c=>?_,λy v hv hk=>?_⟩,λn c hc=>?_,λy v hv hk=>?_⟩
 .rcases x.keep _ _ g e.own (by simp) (by rw[c];unfold sb;split<;>decide)with z|⟨_,sl,z⟩;.exact⟨o.slots,z⟩
  .exact⟨sl,z⟩
 .obtain⟨w,a,b⟩:=e6 y v hv hk;exact⟨w,a,VR.ext x v b⟩
 .obtain⟨a1,u,a2⟩:=e.cells n c hc;exact⟨x.own a2 a1,u,aq x a2 a1⟩
 .obtain⟨c,w,a1,a2,a4⟩:=e.cell y v hv hk;exact⟨c,w,a1,aq x a2 (e.cells _ c (mem_of_lookup a1)).1,VR.ext x v a4⟩
theorem YK{B:Im}(k:∀L o,C L=none->h.get? L=JS o->o.cls=.type "frame"->(∀vs,o.data≠.fields vs)->∃o',h'.get? L=JS o'/\∀vs,o'.data≠.fields vs):∀{l:List Env},h.FunFrames B l->(∀env∈l,∀L,env.frame=JS L->C L=none/\∃o,h.get? L=JS o/\o.cls=.type "frame")->h'.FunFrames B l|[],zo,zY=>trivial|env::l,⟨hk,⟨L,o,hf,hn,ho,hd⟩,hr⟩,hl=>by refine⟨hk,?_,YK k hr λe he=>hl e (.tail _ he)⟩;obtain⟨w,o',vi,hc⟩:=hl env (.head _) L hf;replace vi:=yc ho vi;cases vi;obtain⟨o',a,c⟩:=k L o w ho hc hd;exact⟨L,o',hf,hn,a,c⟩
theorem xV.to(k:∀L o,C L=none->h.get? L=JS o->o.cls=.type "frame"->zm L=none/\∃o',C3 (h'.get? L=JS o') (o'.cls=.type "frame") ((∀vs,o.data≠.fields vs)->∀vs,o'.data≠.fields vs))(a:xV F A C h):xV F A zm h':=by
 obtain⟨l,a1,a2,a3⟩:=a.frames;refine⟨a.depth,a.units,a.nG,a.ok,a.hand,l,a1,YK (λL o w e c d=>?_) a2 a3,λenv he L hL=>?_⟩;.obtain⟨_,o',e',_,d'⟩:=k L o w e c;exact⟨o',e',d' d⟩
 .obtain⟨w,o,e,c⟩:=a3 env he L hL;obtain⟨w',o',e',c',_⟩:=k L o w e c;exact⟨w',o',e',c'⟩
theorem xV.ext(x:Ext [] f C h f' zm h')(a:xV F A C h):xV F A zm h':=a.to λL o w e c=>by
 refine⟨x.own e w,?_⟩;rcases x.keep L o e w (by simp) (by rw[c];decide)with z|⟨q,sl,z⟩;.exact⟨o,z,c,id⟩
 .exact⟨_,z,q,id⟩
theorem Cx.next(c:Cx F L J env A f C s)(d:Done F [] f C s zy f' zm s'):Cx F L zy env A f' zm s':=⟨d.rel,c.en.ext d.ext,c.ak.ext d.ext⟩
end
noncomputable abbrev rV:FM->OW->Im->V->JM->Prop:=VR
noncomputable abbrev Mh:FM->OW->Im->List V->List JM->Prop:=zS
noncomputable abbrev rB:FM->OW->Im->Bool->Bool->Prop:=λzz zz zz b c=>b=c
section
variable{F:Fr}{f:FM}{C:OW}{s:JI}{J:St}{A:Ip}{env:Env}{L:Loc}{M:Model}{E:JM->JI->Prop}{Q:JM->JI->Prop}
theorem Rl.ay{b:Bc}(r:Rl b f C J s.heap):∀c o,b.B.get? c=JS o->C c=none/\s.heap.get? c=JS o:=λc o e=>⟨J1.mpr λn q=>(nomatch(r.fresh c n q).symm.trans e),r.base c o e⟩
theorem mR.vr{b:Bc}{v:V}{w:JM}(h:mR b v w)(r:Rl b f C J s.heap):VR f C s.heap v w:=h f C s.heap r.fix r.ay
theorem RN{x:Nat}{pos:Pos}{v:V}(e:yj f C s.heap env L)(pU:WO env.scope (nm x)=JQ)(hv:lk x L=JS v)(hQ:∀w,VR f C s.heap v w->Q w s):wpAny M A (eval (.Name (nm x) pos) env) Q E s:=by
 obtain⟨h1,h2⟩:=zh pU;obtain⟨h2,h3⟩:=zh h2;rw[Ii]at h2 h3;refine wpAny_Name ?_ h2;rcases(Iq _ _).mp h1 with hk|h1;.obtain⟨m,n,e6⟩:=e.loc;obtain⟨w,a,c⟩:=e6 x v hv (eq_of_beq hk);exact wpAny_loadName_local e.kind (eq_of_beq hk) n.ns a (hQ w c)
 rcases(Iq _ _).mp h1 with hk|hk;.obtain⟨c,w,a1,a2,a4⟩:=e.cell x v hv (.inl (eq_of_beq hk));exact wpAny_loadName_cell e.kind (eq_of_beq hk) a1 ⟨_,a2,rfl⟩ (hQ w a4)
 .obtain⟨c,w,a1,a2,a4⟩:=e.cell x v hv (.inr (eq_of_beq hk));exact wpAny_loadName_free e.kind (eq_of_beq hk) a1 ⟨_,a2,rfl⟩ (hQ w a4) h3
theorem fX{x:Nat}{y:Str}{pos:Pos}{v:V}(G:gi F.b)(r:Rl F.b f C J s.heap)(e:yj f C s.heap env L)(hy:nm x=y)(pU:nE env.scope y=JQ)(hv:prog.glob x=JS v)(hQ:∀w,VR f C s.heap v w->Q w s):wpAny M A (eval (.Name y pos) env) Q E s:=by
 subst hy;obtain⟨h1,h2⟩:=zh pU;rw[Ii]at h2;obtain⟨mg,mb,g1,g2,g3⟩:=G.at_;obtain⟨w,hw,hr⟩:=g3 x v hv;have fin:=hQ w (hr.vr r);have tw:s.heap.Ns env.globals mg:=by rw[e.glob];exact g1.keeps r.base
 have fK:s.heap.Ns env.builtins mb:=by rw[e.blt];exact g2.keeps r.base
 refine Name_function_global e.kind (eq_of_beq h1) ?_ h2;rcases hw with q|⟨q,q'⟩;.exact loadGlobal_global tw q fin
 .exact loadGlobal_builtin tw q fK q' fin
end
open PySem PySem.W PySem.Calls PyProof.Rows
theorem dQ{m:M}(h:iO m=JQ){zw:Pi}{a:Str}{env:Env}{whole:Sem JM}:attributeBase (zW m zw) a env whole=whole:=by cases m<;>first|rfl|cases h
theorem dP{m:M}(h:wB m=JQ){zw:Pi}{r:List Expr}{env:Env}:starEach (zW m zw::r) env=(JT,eval (zW m zw) env)::starEach r env:=by cases m<;>first|rfl|cases h
theorem Nb{m:M}(h:wB m=JQ){zw:Pi}{op:CmpOp}:behindInMarks op (zW m zw)=JT:=by cases m<;>first|rfl|cases h
noncomputable def XW(m:M):Bool:=wB m&&(m.ctorIdx !=M.ctorIdx (.not .nil)&&(m.ctorIdx !=M.ctorIdx (.cmp .eq .nil .nil)&&(m.ctorIdx !=M.ctorIdx (.and .nil)&&(m.ctorIdx !=M.ctorIdx (.or .nil)&&m.ctorIdx !=M.ctorIdx (.ite .nil .nil .nil)))))
theorem NY{m:M}(h:XW m=JQ){zw:Pi}{env:Env}{t:Sem JM}:isTrue (zW m zw) env t=(do let v<-t;standAt (zW m zw).pos;holding [v] (truthy v)):=by cases m<;>first|rfl|cases h
section
variable(F:Fr)(L:Loc)
structure E(m:M)(J:St)(out:R V):Prop where
 go:∀{zw:Pi}{env:Env}{A:Around}{f:FM}{C:OW}{s:Shared},yy F.b.X m zw env.scope=true->Cx F L J env A f C s->W F A (eval (zW m zw) env) rV f C s out/\∀t zy,out=.ok (.bool t) zy->W F A (isTrue (zW m zw) env (eval (zW m zw) env)) rB f C s (.ok t zy)
structure Es(m:M)(J:St)(vs:List V)(zy:St):Prop where
 go:∀{zw:Pi}{env:Env}{A:Around}{f:FM}{C:OW}{s:Shared}{pos:Pos},yy F.b.X m zw env.scope=true→Cx F L J env A f C s→W F A (spliced (backTo pos (starEach (xW m zw) env))) Mh f C s (.ok vs zy)
 ns:∀{zw:Pi}{env:Env}{pos:Pos},yy F.b.X m zw env.scope=true→(backTo pos (starEach (xW m zw) env)).any (·.1)=false
structure bT(t:JM->JM->Sem JM)(x y:V)(J:St)(out:R V):Prop where
 go:∀{A:Around}{f:FM}{C:OW}{s:Shared}{xv yv:Value},Rl F.b f C J s.heap->xV F A C s.heap->VR f C s.heap x xv->VR f C s.heap y yv->W F A (t xv yv) rV f C s out
noncomputable abbrev ur(op:qL)(x y:V)(J:St)(out:R V):Prop:=bT F (binaryOp (ar op)) x y J out
noncomputable abbrev xg(op:ry)(x y:V)(J:St)(b:Bool):Prop:=bT F (compareOp (js op)) x y J (.ok (.bool b) J)
structure Sub(o i:V)(J:St)(v:V):Prop where
 go:∀{A:Around}{f:FM}{C:OW}{s:Shared}{ov iv:Value},Rl F.b f C J s.heap->xV F A C s.heap->VR f C s.heap o ov->VR f C s.heap i iv->Looks (model F.b.prog F.b.w) s.heap (getitemInPython ov) false/\W F A (getItem ov iv) rV f C s (.ok v J)
structure Call(fv:V)(args:List V)(J:St)(out:R V):Prop where
 go:∀{A:Around}{f:FM}{C:OW}{s:Shared}{xY:Value}{vals:List Value},Rl F.b f C J s.heap->xV F A C s.heap->VR f C s.heap fv xY->zS f C s.heap args vals->W F A (PySem.call xY vals) rV f C s out
structure Find(o:V)(x:Nat)(J:St)(fv:V)(first:List V):Prop where
 go:∀{A:Around}{f:FM}{C:OW}{s:Shared}{ov:Value}{pl:Sem Bool},F.b.X.contains x=true->Rl F.b f C J s.heap->xV F A C s.heap->VR f C s.heap o ov->W F A (getMethod ov (nm x) pl) (λf C h(zz:Unit)(r:Value×List Value)=>VR f C h fv r.1/\zS f C h first r.2) f C s (.ok () J)
end
section
variable{F:Fr}{L:Loc}{J zt zb yO:St}{f:FM}{C:OW}{s:JI}{A:Ip}{env:Env}{zw:Pi}
theorem E.mk'{m:M}{out:R V}(hm:XW m=JQ)(h:∀{zw:Pi}{env:Env}{A:Ip}{f:FM}{C:OW}{s:JI},yy F.b.X m zw env.scope=JQ->Cx F L J env A f C s->W F A (eval (zW m zw) env) rV f C s out):E F L m J out:=⟨λok c=>⟨h ok c,λt zy e=>by subst e;rw[NY hm];refine seq (h ok c) λv f' zm s' d hv=>?_;cases hv;exact JR (J3 (JE (W.pure d.rel rfl)))⟩⟩
theorem E.w{m:M}{out:R V}(h:E F L m J out)(ok:yy F.b.X m zw env.scope=JQ)(c:Cx F L J env A f C s):W F A (eval (zW m zw) env) rV f C s out:=(h.go ok c).1
theorem E.t{m:M}{t:Bool}(h:E F L m J (.ok (.bool t) zt))(ok:yy F.b.X m zw env.scope=JQ)(c:Cx F L J env A f C s):W F A (isTrue (zW m zw) env (eval (zW m zw) env)) rB f C s (.ok t zt):=(h.go ok c).2 t zt rfl
theorem zQ:E F L .none J (.ok .none J):=by refine E.mk' rfl λzz c=>?_;exact W.pure c.rel rfl
theorem sR{b:Bool}:E F L (.bool b) J (.ok (.bool b) J):=by refine E.mk' rfl λzz c=>?_;exact W.pure c.rel rfl
theorem yw{i:Int}:E F L (.int i) J (.ok (.int i) J):=by refine E.mk' rfl λzz c=>?_;exact wpAny_Constant_int (xp c.rel ⟨_,rfl⟩)
theorem zV{t:List Nat}:E F L (.str t) J (.ok (.str t) J):=by refine E.mk' rfl λzz c=>?_;exact wpAny_Constant_str (xp c.rel ⟨_,rfl⟩)
theorem f_{i:Nat}:E F L (.neg i) J (.ok (.int (-(i:Int))) J):=by refine E.mk' rfl λ{zw env A f C s}zz c=>?_;show wpAny _ _ (eval (.UnaryOp .USub _ _) env) _ _ _;rw[arm_eval_UnaryOp];refine JR (wpAny_Constant_int ?_);refine JR (J3 (JE (PyProof.Rows.neg_int ?_)));exact xp c.rel ⟨_,rfl⟩
theorem zx{x:Nat}{v:V}(h:lk x L=JS v):E F L (.loc x) J (.ok v J):=by refine E.mk' rfl λok c=>?_;exact RN c.en ok h λzz hw=>wA c.rel hw
theorem yp{x:Nat}{v:V}(h:prog.glob x=JS v):E F L (.zu x) J (.ok v J):=by refine E.mk' rfl λok c=>?_;exact fX c.ak.ok.glob c.rel c.en rfl ok h λzz hw=>wA c.rel hw
theorem zf:Es F L .nil J [] J:=⟨λzz c=>GD (wA c.rel rfl),λzz=>rfl⟩
theorem zp{e es:M}{v:V}{vs:List V}(h:E F L e J (.ok v zt))(h':Es F L es zt vs zb):Es F L (.cons e es) J (v::vs) zb:=by
 refine⟨λ{zw env A f C s pos}ok c=>?_,λ{zw env pos}ok=>?_⟩;case refine_2=>obtain⟨o1,o2⟩:=zh ok;show(backTo pos (starEach (zW e (sh zw 0)::xW es (sh zw 1)) env)).any _=JT;rw[dP o1];exact h'.ns (zh o2).2
 obtain⟨o1,o2⟩:=zh ok;obtain⟨o2,o3⟩:=zh o2;show W F A (spliced (backTo pos (starEach (zW e (sh zw 0)::xW es (sh zw 1)) env))) _ _ _ _ _;rw[dP o1];show W F A (spliced ((JT,eval _ env)::backTo pos (starEach (xW es (sh zw 1)) env))) _ _ _ _ _;rw[spliced];refine seq (h.w o2 c) λw f' zm s' d hv=>?_;simp only[Iv,if_false];refine JR (JL ?_);exact seq (JE (h'.go o3 (c.next d))) λws f' zm s' d' uL=>W.pure d'.rel ⟨_,_,rfl,VR.ext d'.ext _ hv,uL⟩
theorem Yu{e:M}{x:Nat}{o v:V}(he:E F L e J (.ok o zt))(ha:∀{A:Ip}{f:FM}{C:OW}{s:JI}{ov:JM}{expr:Bool},F.b.X.contains x=JQ->Facts F.b->Rl F.b f C zt s.heap->VR f C s.heap o ov->W F A (getAttr ov (nm x) expr) rV f C s (.ok v zt)):E F L (.attr e x) J (.ok v zt):=by refine E.mk' rfl λ{zw env A f C s}ok c=>?_;obtain⟨o1,o2⟩:=zh ok;obtain⟨o2,o3⟩:=zh o2;show W F A (eval (.Attribute (zW e (sh zw 0)) (nm x) _) env) _ _ _ _ _;rewrite[arm_eval_Attribute];rw[dQ o2];refine seq (he.w o3 c) λw f' zm s' d hv=>JR (J3 (JR (JE (JC (ha o1 c.ak.ok d.rel hv) (λzz zz p=>?_) λzz zz p=>p))));exact JR (Fd (JL p))
noncomputable def after(e sl:Expr)(pos:Pos)(o i:JM):Sem JM:=do standAt pos;let r<-subscripted sl (<-getitemInPython o) o i;letTemporaryGo e o r;pure r
theorem bL{e sl:Expr}{pos:Pos}{o i:JM}{Q E:JM->JI->Prop}(hs:∀{Q E:JM->JI->Prop}{s:JI},wpAny (model F.b.prog F.b.w) A (getItem o i) Q E s->wpAny (model F.b.prog F.b.w) A (subscripted sl JT o i) Q E s)(z1:Looks (model F.b.prog F.b.w) s.heap (getitemInPython o) JT)(z2:wpAny (model F.b.prog F.b.w) A (getItem o i) Q E s):wpAny (model F.b.prog F.b.w) A (after e sl pos o i) Q E s:=JR (J3 (JR (z1.here (JR (JC (hs z2) (λzz zz p=>JR (Fd (JL p))) λzz zz p=>p)))))
theorem NZ{m:M}{o i:JM}{Mo:Model}{Q E:JM->JI->Prop}(hm:wB m=JQ)(h:wpAny Mo A (getItem o i) Q E s):wpAny Mo A (subscripted (zW m zw) JT o i) Q E s:=by cases m<;>first|exact H0 h|cases hm
theorem yL{o i:M}{x y v:V}(ha:E F L o J (.ok x zt))(hb:E F L i zt (.ok y zb))(hc:Sub F x y zb v):E F L (.sub o i) J (.ok v zb):=by refine E.mk' rfl λ{zw env A f C s}ok c=>?_;obtain⟨o1,o2⟩:=zh ok;obtain⟨o2,o3⟩:=zh o2;show W F A (eval (zW o (sh zw 0)) env>>=λw=>holding [w] (eval (zW i (sh zw 1)) env)>>=after (zW o (sh zw 0)) (zW i (sh zw 1)) (zw []).p w) _ _ _ _ _;refine seq (ha.w o2 c) λw f' zm s' d hv=>seq (JE (hb.w o3 (c.next d))) λxK yg yk yq ze uK=>?_;obtain⟨z1,z2⟩:=hc.go (A:=A) ze.rel ((c.next d).next ze).ak (VR.ext ze.ext _ hv) uK;exact bL (NZ o1) z1 z2
structure uA(F:Fr)(o:V)(lv hv sv:JM)(J:St)(v:V)(zy:St):Prop where
 go:∀{A:Around}{f:FM}{C:OW}{s:Shared}{ov:Value}{I:Addr},Rl F.b f C J s.heap->s.heap.IsSliceOf I lv hv sv->VR f C s.heap o ov->Looks (model F.b.prog F.b.w) s.heap (getitemInPython ov) false/\W F A (getItem ov (.ref I)) rV f C s (.ok v zy)
theorem i5{o v:V}{zy:St}{ov lv hv sv:JM}{l u x:Option Expr}{p pos:Pos}{e:Expr}{jP:FM}{iQ:OW}{yR:JI}(Z0:Done F [] jP iQ yR J f C s)(ho:VR f C s.heap o ov)(h:uA F o lv hv sv J v zy):wpAny (model F.b.prog F.b.w) A (newFields "slice" [lv,hv,sv]) (λi s'=>wpAny (model F.b.prog F.b.w) A (after e (.Slice l u x p) pos ov i) (PO F rV jP iQ yR (.ok v zy)) (PX F jP iQ yR (.ok v zy)) s') (PX F jP iQ yR (.ok v zy)) s:=by unfold newFields;refine Hj ?_ (by show 3<=_;decide);have d:Done F [] f C s J f C {s with heap:=s.heap.push ⟨.type "slice",none,.fields #[lv,hv,sv],#[]⟩}:=Done.grow Z0.rel (λzz zz e=>J6 _ e) rfl rfl;obtain⟨z1,z2⟩:=h.go (A:=A) d.rel ⟨_,J7 _ rfl,rfl,rfl⟩ (VR.ext d.ext _ ho);exact bL (λz=>by cases x<;>exact H0 z) z1 (W.from (Z0.trans d) z2)
theorem E.k{m:M}{v:V}{Q Z:JM->JI->Prop}(h:E F L m J (.ok v zt))(ok:yy F.b.X m zw env.scope=JQ)(c:Cx F L J env A f C s)(k:∀w f' zm s',Done F [] f C s zt f' zm s'->VR f' zm s'.heap v w->Q w s'):wpAny (model F.b.prog F.b.w) A (eval (zW m zw) env) Q Z s:=JC (h.w ok c) (λw s'⟨f',zm,d,hv⟩=>k w f' zm s' d hv) λzz zz x=>x.elim
theorem m6{e:M}{o v:V}{zy:St}(he:E F L e J (.ok o zt))(h:∀t,uA F o .none .none (.int (-1) t) zt v zy):E F L (.oz e) J (.ok v zy):=by refine E.mk' rfl λ{zw env A f C s}ok c=>?_;refine seq (he.w ok c) λw f' zm s' d hv=>JR (JE (JR (JL (JR (JE (JL (JR (JE ((f_ (i:=1)).k (zw:=sh zw 2) rfl (c.next d) λxK yg yk yq ze hw=>?_)))))))));obtain⟨t,rfl⟩:=hw;exact i5 ze (VR.ext ze.ext _ hv) (h t)
theorem Yl{e i:M}{o v:V}{j:Int}{zy:St}(he:E F L e J (.ok o zt))(hi:E F L i zt (.ok (.int j) zb))(h:∀t,uA F o (.int j t) .none .none zb v zy):E F L (.qR e i) J (.ok v zy):=by refine E.mk' rfl λ{zw env A f C s}ok c=>?_;obtain⟨o1,o2⟩:=zh ok;refine seq (he.w o1 c) λw f' zm s' d hv=>JR (JE (JR (hi.k o2 (c.next d) λxK yg yk yq ze hw=>JR (JE (JL (JR (JE (JL ?_))))))));obtain⟨t,rfl⟩:=hw;exact i5 ze (VR.ext ze.ext _ hv) (h t)
theorem RW{e i:M}{o v:V}{j:Int}{zy:St}(he:E F L e J (.ok o zt))(hi:E F L i zt (.ok (.int j) zb))(h:∀t,uA F o .none (.int j t) .none zb v zy):E F L (.p0 e i) J (.ok v zy):=by refine E.mk' rfl λ{zw env A f C s}ok c=>?_;obtain⟨o1,o2⟩:=zh ok;refine seq (he.w o1 c) λw f' zm s' d hv=>JR (JE (JR (JL (JR (JE (hi.k o2 (c.next d) λxK yg yk yq ze hw=>JR (JE (JL ?_))))))));obtain⟨t,rfl⟩:=hw;exact i5 ze (VR.ext ze.ext _ hv) (h t)
theorem Ym{e:M}{o v:V}{zy:St}(he:E F L e J (.ok o zt))(h:∀t u,uA F o (.int 1 t) (.int (-1) u) .none zt v zy):E F L (.wX e) J (.ok v zy):=by refine E.mk' rfl λ{zw env A f C s}ok c=>?_;refine seq (he.w ok c) λw f' zm s' d hv=>JR (JE (JR ((yw (i:=1)).k (zw:=sh zw 2) rfl (c.next d) λs8 zB zD zd zF wL=>JR (JE ((f_ (i:=1)).k (zw:=sh zw 3) rfl ((c.next d).next zF) λxK yg yk yq ze hw=>JR (JE (JL ?_)))))));obtain⟨t,rfl⟩:=wL;obtain⟨u,rfl⟩:=hw;exact i5 (zF.trans ze) (VR.ext ze.ext _ (VR.ext zF.ext _ hv)) (h t u)
end
open PySem PySem.W PySem.Calls PyProof.Rows
theorem xj:∀{a c:List Nat},zR a c=JQ↔a=c|[],[]=>⟨fun zz=>rfl,fun zz=>rfl⟩|[],zo::zY|zH::ya,[]=>⟨fun h=>(by cases h),fun h=>(by cases h)⟩|a::r,c::t=>by show(JG a c&&zR r t)=JQ↔_;rewrite[IW];rewrite[Nat.beq_eq];rewrite[xj];rw[Ef]
theorem gN(a c:List Nat):(tx a==tx c)=zR c a:=by rewrite[Ee];rewrite[beq_iff_eq];rw[xj];exact⟨λq=>(mj q).symm,λq=>by rw[q]⟩
theorem qx{n:Nat}(h:Ho n u5=JQ):n<=1000000:=JA h
theorem vO{n:Nat}(h:Ho n u5=JQ):n<=sizeLine:=J4 (qx h) (by decide)
section
variable{F:Fr}{fr:List J0}{L:Loc}{J zt zb yO zy:St}{f f':FM}{C zm:OW}{h:Im}{s s':JI}{A:Ip}{env:Env}{zw:Pi}{M:Model}{Z:JM->JI->Prop}
theorem xE(h:Im)(o:Obj):grows h (h.push o):=λzz zz e=>J6 o e
theorem ta(r:Rl F.b f C J h){c:J0}(hc:h.objs.size<=c):C c=none/\F.b.B.get? c=none:=⟨J1.mpr λn q=>(let⟨o,e⟩:=r.alive c n q;(nomatch(tq hc).symm.trans e)),J1.mpr λo q=>(nomatch(tq hc).symm.trans (r.base c o q))⟩
theorem jb(r:Rl F.b f C J s.heap)(o:Obj):Done F fr f C s J f C {s with heap:=s.heap.push o}:=Done.grow r (xE _ o) rfl rfl
theorem pq(r:Rl F.b f C J s.heap)(g:grows s.heap s'.heap)(hg:s'.gens=s.gens)(ho:s'.os=s.os){l:List J0}(hl:∀c∈l,s.heap.get? c=none/\∃o,s'.heap.get? c=JS o){a:J0}{m:O}(e:tV F.b.w.params F.b.B (t9 f J.length a) (ows C l J.length) s'.heap J.length m a):Done F fr f C s (J++[m]) (t9 f J.length a) (ows C l J.length) s':=⟨Ext.new r g λc hc=>(hl c hc).1,Rel.push r g hl e,hg,ho,λzz c zz o zz e=>g c o e⟩
theorem pD{vs:List V}{items:Array JM}{g:Im}(r:Rl F.b f C J s.heap)(hg:grows s.heap g)(hv:zS f C s.heap vs items.toList){tk:Nat}:PO F rV f C s (.ok (.ref J.length) (J++[.list vs])) (.ref g.objs.size) {s with heap:=g.push (mz "list" items 0),toks:=tk}:=by obtain gg:grows s.heap (g.push (mz "list" items 0)):=λc o e=>xE _ _ c o (hg c o e);obtain nl:s.heap.get? g.objs.size=none:=J1.mpr λo q=>absurd (I7 (hg _ _ q)) (Nat.lt_irrefl _);obtain d:Done F [] f C s _ _ _ {s with heap:=g.push (mz "list" items 0),toks:=tk}:=pq (s':={s with heap:=g.push (mz "list" items 0),toks:=tk}) (m:=.list vs) (a:=g.objs.size) (l:=[g.objs.size]) r gg rfl rfl (λc hc=>by rw[JP.mp hc];exact⟨nl,_,J7 _ rfl⟩) ⟨tE JH,items,0,J7 _ rfl,zS.yn (Ext.new (fr:=[]) r gg λc hc=>by rw[JP.mp hc];exact nl).v _ hv⟩;exact⟨_,_,d,_,t8,rfl⟩
theorem x_{es:Mine.M}{vs:List V}(h:Es F L es J vs zt)(hs:short vs=JQ):E F L (.tup es) J (.ok (.tup vs) zt):=by refine E.mk' rfl λ{zw env A f C s}ok c=>?_;show W F A (eval (.Tuple _ _ _) env) _ _ _ _ _;rw[arm_eval_Tuple];refine JR (J3 (seq (h.go ok c) λws f' zm s' d hv=>?_));refine Hj ?_ (by show ws.toArray.size<=sizeLine;rewrite[Hx];rw[hv.length];exact vO hs);obtain d':=jb (fr:=[]) d.rel {cls:=.type "tuple",data:=.seq ws.toArray};exact⟨f',zm,d',s'.heap.objs.size,ws.toArray,0,#[],rfl,J7 _ rfl,(ta d.rel (JK _)).1,zS.ext d'.ext vs hv⟩
theorem y5{es:Mine.M}{vs:List V}(h:Es F L es J vs zt)(hs:short vs=JQ):E F L (.lst es) J (.ok (.ref zt.length) (zt++[.list vs])):=by refine E.mk' rfl λ{zw env A f C s}ok c=>?_;show W F A (eval (.List _ _) env) _ _ _ _ _;rw[arm_eval_List];refine JR (J3 (seq (h.go ok c) λws f' zm s' d hv=>?_));refine Hj ?_ (by show ws.toArray.size<=sizeLine;rewrite[Hx];rw[hv.length];exact vO hs);exact pD d.rel grows.refl hv
theorem yh{op:qL}{a b:Mine.M}{x y:V}{out:R V}(ha:E F L a J (.ok x zt))(hb:E F L b zt (.ok y zb))(hc:ur F op x y zb out):E F L (.bin op a b) J out:=by refine E.mk' rfl λ{zw env A f C s}ok c=>?_;obtain⟨o1,o2⟩:=zh ok;show W F A (eval (.BinOp _ _ _ _) env) _ _ _ _ _;rw[arm_eval_BinOp];exact seq (ha.w o1 c) λw f' zm s' d hv=>seq (JE (hb.w o2 (c.next d))) λxK yg yk yq ze uK=>JR (J3 (H0 (hc.go ze.rel ((c.next d).next ze).ak (VR.ext ze.ext _ hv) uK)))
theorem zZ{op:ry}{a b:Mine.M}{x y:V}{t:Bool}(ha:E F L a J (.ok x zt))(hb:E F L b zt (.ok y zb))(hc:xg F op x y zb t):E F L (.cmp op a b) J (.ok (.bool t) zb):=by
 have m1:∀{zw:Pi}{env:Env},wB b=JQ->markedEach [js op] [zW b zw] (evalEach [zW b zw] env)=[eval (zW b zw) env]:=λ{zw env}h=>by show[markedBehindIn (js op) (zW b zw) (eval (zW b zw) env)]=_;unfold markedBehindIn;rw[Nb h]
 refine⟨λ{zw env A f C s}ok c=>?_⟩;obtain⟨o1,o2⟩:=zh ok;obtain⟨o2,o3⟩:=zh o2;constructor;.show W F A (eval (.Compare _ _ _ _) env) _ _ _ _ _;rewrite[arm_eval_Compare];rw[m1 o1];exact seq (ha.w o2 c) λw f' zm s' d hv=>seq (JE (hb.w o3 (c.next d))) λxK yg yk yq ze uK=>JR (J3 (H0 (hc.go ze.rel ((c.next d).next ze).ak (VR.ext ze.ext _ hv) uK)))
 .intro t' zy e;cases e;show W F A (isTrue (.Compare _ _ _ _) env _) _ _ _ _ _;rewrite[arm_isTrue_Compare];rw[m1 o1];refine seq (ha.w o2 c) λw f' zm s' d hv=>seq (JE (hb.w o3 (c.next d))) λxK yg yk yq ze uK=>JR (J3 ?_);refine seq (H0 (hc.go ze.rel ((c.next d).next ze).ak (VR.ext ze.ext _ hv) uK)) λUj sZ sJ xy yP Oz=>?_;cases Oz;exact JE (W.pure yP.rel rfl)
theorem vM{e:Mine.M}{t:Bool}(h:E F L e J (.ok (.bool t) zt)):E F L (.not e) J (.ok (.bool (!t)) zt):=by
 refine⟨λ{zw env A f C s}ok c=>⟨?_,λt' zy e=>?_⟩⟩;.show W F A (eval (.UnaryOp .Not _ _) env) _ _ _ _ _;rw[arm_eval_UnaryOp];refine seq (h.w ok c) λw f' zm s' d hv=>?_;cases hv;exact JR (J3 (JE (not_of (W.pure d.rel rfl))))
 .cases e;show W F A (isTrue (.UnaryOp .Not _ _) env _) _ _ _ _ _;rw[arm_isTrue_UnaryOp];refine seq (h.t ok c) λw f' zm s' d hv=>?_;cases hv;exact W.pure d.rel rfl
theorem Yq{c a b:Mine.M}{t:Bool}{out:R V}(h:E F L c J (.ok (.bool t) zt))(h':E F L (if t then a else b) zt out):E F L (.ite c a b) J out:=by
 refine⟨λ{zw env A f C s}ok cx=>?_⟩;obtain⟨o1,o2⟩:=zh ok;obtain⟨o2,o3⟩:=zh o2;refine⟨?_,λt' zy e=>?_⟩;.show W F A (eval (.IfExp _ _ _ _) env) _ _ _ _ _;rw[arm_eval_IfExp];refine seq (h.t o1 cx) λw f' zm s' d hv=>?_;cases hv;cases t with|true=>exact h'.w o2 (cx.next d)|false=>exact h'.w o3 (cx.next d)
 .subst e;show W F A (isTrue (.IfExp _ _ _ _) env _) _ _ _ _ _;rw[arm_isTrue_IfExp];refine seq (h.t o1 cx) λw f' zm s' d hv=>?_;cases hv;cases t with|true=>exact h'.t o2 (cx.next d)|false=>exact h'.t o3 (cx.next d)
theorem wq{c a b:Mine.M}{out:R V}(h:E F L c J (.ok (.bool JQ) zt))(h':E F L a zt out):E F L (.ite c a b) J out:=Yq h h'
theorem wt{c a b:Mine.M}{out:R V}(h:E F L c J (.ok (.bool JT) zt))(h':E F L b zt out):E F L (.ite c a b) J out:=Yq h h'
noncomputable def mF(z:Bool)(es:Mine.M):Mine.M:=if z then .or es else .and es
theorem ai{z t:Bool}{b:Mine.M}(h:E F L b J (.ok (.bool t) zt)):E F L (mF z (.cons b .nil)) J (.ok (.bool t) zt):=by
 refine⟨λ{zw env A f C s}ok c=>?_⟩;obtain ok:yy F.b.X (.cons b .nil) (sh zw 0) env.scope=JQ:=by cases z<;>exact ok
 obtain⟨o2,o3⟩:=zh (zh ok).2;refine⟨by cases z<;>exact h.w o2 c,λt' zy e=>?_⟩;cases e;cases z;all_goals show W F A (allTrue _ [zW b _] env) _ _ _ _ _;rw[arm_allTrue_cons];refine seq (h.t o2 c) λw f' zm s' d hv=>?_;cases hv;cases t<;>exact W.pure d.rel rfl
theorem af{z:Bool}{a b es:Mine.M}(h:E F L a J (.ok (.bool z) zt)):E F L (mF z (.cons a (.cons b es))) J (.ok (.bool z) zt):=by
 refine⟨λ{zw env A f C s}ok c=>?_⟩;obtain ok:yy F.b.X (.cons a (.cons b es)) (sh zw 0) env.scope=JQ:=by cases z<;>exact ok
 obtain⟨o2,o3⟩:=zh (zh ok).2;refine⟨?_,λt' zy e=>?_⟩;.cases z;all_goals show W F A (eval (zW a (sh (sh zw 0) 0)) env>>=_) _ _ _ _ _;refine seq (h.w o2 c) λw f' zm s' d hv=>?_;cases hv;refine JR (J3 (JR (JE (JL ?_))));exact W.pure d.rel rfl
 .cases e;cases z;all_goals show W F A (allTrue _ (zW a _::_) env) _ _ _ _ _;rw[arm_allTrue_cons];refine seq (h.t o2 c) λw f' zm s' d hv=>?_;cases hv;exact W.pure d.rel rfl
theorem ag{z t:Bool}{a b es:Mine.M}(h:E F L a J (.ok (.bool (!z)) zt))(h':E F L (mF z (.cons b es)) zt (.ok (.bool t) zb)):E F L (mF z (.cons a (.cons b es))) J (.ok (.bool t) zb):=by
 refine⟨λ{zw env A f C s}ok c=>?_⟩;obtain ok:yy F.b.X (.cons a (.cons b es)) (sh zw 0) env.scope=JQ:=by cases z<;>exact ok
 obtain⟨o2,o3⟩:=zh (zh ok).2;have WR:∀{D:Dc},yy F.b.X (mF z (.cons b es)) (λl=>match l with|[]=>D|_::l=>sh (sh zw 0) 1 l) env.scope=JQ:=by cases z<;>exact o3
 refine⟨?_,λt' zy e=>?_⟩;.cases z;all_goals show W F A (eval (zW a (sh (sh zw 0) 0)) env>>=_) _ _ _ _ _;refine seq (h.w o2 c) λw f' zm s' d hv=>?_;cases hv;refine JR (J3 (JR (JE (JL ?_))));exact h'.w (WR (D:=zw [])) (c.next d)
 .cases e;cases z;all_goals show W F A (allTrue _ (zW a _::_) env) _ _ _ _ _;rw[arm_allTrue_cons];refine seq (h.t o2 c) λw f' zm s' d hv=>?_;cases hv;exact h'.t (WR (D:=zw [])) (c.next d)
theorem uh{b:Mine.M}{t:Bool}(h:E F L b J (.ok (.bool t) zt)):E F L (.and (.cons b .nil)) J (.ok (.bool t) zt):=ai (z:=JT) h
theorem uO{b:Mine.M}{t:Bool}(h:E F L b J (.ok (.bool t) zt)):E F L (.or (.cons b .nil)) J (.ok (.bool t) zt):=ai (z:=JQ) h
theorem tR{a b es:Mine.M}(h:E F L a J (.ok (.bool JT) zt)):E F L (.and (.cons a (.cons b es))) J (.ok (.bool JT) zt):=af (z:=JT) h
theorem sd{a b es:Mine.M}(h:E F L a J (.ok (.bool JQ) zt)):E F L (.or (.cons a (.cons b es))) J (.ok (.bool JQ) zt):=af (z:=JQ) h
theorem w5{a b es:Mine.M}{t:Bool}(h:E F L a J (.ok (.bool JQ) zt))(h':E F L (.and (.cons b es)) zt (.ok (.bool t) zb)):E F L (.and (.cons a (.cons b es))) J (.ok (.bool t) zb):=ag (z:=JT) h h'
theorem uP{a b es:Mine.M}{t:Bool}(h:E F L a J (.ok (.bool JT) zt))(h':E F L (.or (.cons b es)) zt (.ok (.bool t) zb)):E F L (.or (.cons a (.cons b es))) J (.ok (.bool t) zb):=ag (z:=JQ) h h'
end
open PySem PySem.W PySem.Calls PyProof.Rows
section
variable{M:Model}{A:Ip}{E:JM->JI->Prop}{s:JI}
theorem RO{fv:JM}{args:List (Bool×Sem JM)}{Q:Args→JI→Prop}(hp:args.any (·.1)=JT)(h:wpAny M A (spliced args) (fun vs s'=>Q ⟨vs,[]⟩ s') E s):wpAny M A (evalArgs fv JQ args []) Q E s:=by match args,hp,h with|[],zo,h=>unfold evalArgs;show wpAny M A (spliced []>>=fun x=>pure (x,none)>>=_) Q E s;refine JR (JC h (fun vs s' h'=>?_) fun zz zz x=>x);refine JR (JL (JE ?_));exact JR (JL (JR (JL (JL h'))))|(JT,x)::r,zo,h=>exact evalArgs_plain h|(JQ,x)::r,hp,zo=>cases hp
theorem KZ{M:Model}{zi:Type}{c:Prop} [Decidable c]{a b:Sem zi}{Q:zi->JI->Prop}(h:wpAny M A a Q E s)(h':wpAny M A b Q E s):wpAny M A (if c then a else b) Q E s:=if q:c then by rw[if_pos q];exact h else by rw[if_neg q];exact h'
theorem jw{prog:Program}{w:World}{pos:Pos}{fv:JM}{first:List JM}{args:List (Bool×Sem JM)}{Q:JM→JI→Prop}(hp:args.any (·.1)=JT)(h:wpAny (model prog w) A (spliced args) (fun vs zd=>(∃k,(k=F4∨k=Fc)∧Looks (model prog w) zd.heap (keeperOf fv) k)∧wpAny (model prog w) A (call fv (first++vs)) Q E zd) E s):wpAny (model prog w) A (callWith pos fv first args []) Q E s:=by
 unfold callWith;refine JR (JE (RO hp (JC h (fun vs zd wL=>JR (J3 ?_)) fun zz zz x=>x)));obtain⟨⟨k,hk,lk⟩,hc⟩:=wL;have tail:∀{t:Sem JM},wpAny (model prog w) A t Q E zd→wpAny (model prog w) A (t>>=fun r=>holding [r] point>>=fun zz=>pure r) Q E zd:=fun ht=>JR (JC ht (fun r yq hr=>JR (JE (wpAny_point (JL hr)))) fun zz zz x=>x);dsimp only;rw[hp];refine JR (m:=keeperOf fv) (lk.here ?_);rcases hk with rfl|rfl;·show wpAny _ _ (if _+2*H6 ([]:List (Option Str×Sem JM))>30 then _ else _) _ _ _;refine KZ (tail hc) (tail ?_);unfold callMarked;exact wpAny_keep hc
 ·exact tail hc
end
noncomputable def sN:V->Bool|.fn a=>(prog.fn a).isSome|.cl a=>(prog.cls a).isSome|.bi zo|.ty zY=>JQ|_=>JT
section
variable{F:Fr}{L:Loc}{J zt zb yO zy:St}{f:FM}{C:OW}{s:JI}{A:Ip}{env:Env}{zw:Pi}
theorem dq(fk:Facts F.b)(r:Rl F.b f C J s.heap){fv:V}{xY:JM}(hv:VR f C s.heap fv xY)(h:sN fv=JQ):∃k,(k=F4\/k=Fc)/\Looks (model F.b.prog F.b.w) s.heap (keeperOf xY) k:=by obtain kp:∀{a:J0},keepIn F.b.K (.ref a)=JQ->∃k,(k=F4\/k=Fc)/\Looks (model F.b.prog F.b.w) s.heap (keeperOf (.ref a)) k:=λh=>looks_keep h (fk.yQ.keeps r.base);cases fv with|fn a=>cases hv;exact kp (fk.XE a h)|cl c=>cases hv;exact kp (fk.XF c h)|bi i=>cases hv;refine⟨.machine,.inr rfl,?_⟩;cases i<;>exact Ha (by kernel_rfl)|ty t=>cases hv;refine⟨.machine,.inr rfl,?_⟩;cases t<;>exact Ha (by kernel_rfl)|_=>cases h
theorem Ng{fm:M}{args:List Expr}{pos:Pos}(h:XX fm=JQ):eval (.Call (zW fm zw) args [] pos) env=(do let fv<-eval (zW fm zw) env;callWith pos fv [] (backTo pos (starEach args env)) []):=by cases fm<;>first|rfl|cases h
theorem y6{fm args:M}{fv:V}{vs:List V}{out:R V}(hf:E F L fm J (.ok fv zt))(ha:Es F L args zt vs zb)(hc:Call F fv vs zb out)(hk:sN fv=JQ:=by rfl):E F L (.call fm args) J out:=by refine E.mk' rfl λ{zw env A f C s}ok c=>?_;obtain⟨o1,o2⟩:=zh ok;obtain⟨o2,o3⟩:=zh o2;show W F A (eval (.Call (zW fm (sh zw 0)) _ [] _) env) _ _ _ _ _;rw[Ng o1];refine seq (hf.w o2 c) λw f' zm s' d hv=>jw (ha.ns o3) (JC (ha.go o3 (c.next d)) (λws yq p=>?_) λzz zz x=>x.elim);obtain⟨yg,yk,ze,uL⟩:=p;obtain uK:=VR.ext ze.ext _ hv;exact⟨dq c.ak.ok ze.rel uK hk,W.from ze (hc.go ze.rel ((c.next d).next ze).ak uK uL)⟩
theorem U5{args:List (Bool×Sem JM)}(h:args.any (·.1)=JT):args.all (!·.1)=JQ:=by rw[Iz];intro x hx;simpa using F0.mp h x hx
theorem yo{o args:M}{x:Nat}{ov fv:V}{first vs:List V}{out:R V}(ho:E F L o J (.ok ov zt))(hm:Find F ov x zt fv first)(ha:Es F L args zt vs zb)(hc:Call F fv (first++vs) zb out)(hk:sN fv=JQ:=by rfl):E F L (.zl o x args) J out:=by
 refine E.mk' rfl λ{zw env A f C s}ok c=>?_;obtain⟨o1,o2⟩:=zh ok;obtain⟨o2,o3⟩:=zh o2;obtain⟨o1,hl⟩:=zh o1;obtain⟨o1,hp⟩:=zh o1;obtain⟨hX,hb⟩:=zh o1;obtain ns:=ha.ns (pos:=(zw []).p) o3;obtain R7:methodCallForm ((xW args (sh zw 1)).length+([]:List Keyword).length) (backTo (zw []).p (starEach (xW args (sh zw 1)) env)) (backToKw (zw []).p (keywordEach [] env))=JQ:=by obtain this:=JA hl;unfold methodCallForm;rw[U5 ns];show(JQ&&JQ&&decide ((xW args (sh zw 1)).length+0+0<30))=JQ;rw[decide_eq_true (by lia)];rfl
 show W F A (eval (.Call (.Attribute (zW o (sh zw 0)) (nm x) (zw [2]).p) _ [] _) env) _ _ _ _ _;rewrite[arm_eval_Call];rw[dQ hb];refine seq (ho.w o2 c) λw f' zm s' d hv=>JR (J3 ?_);unfold methodCall;rw[R7];refine JR (JE (JC (hm.go hX d.rel (c.next d).ak hv) (λfx zd p=>?_) λzz zz x=>x.elim));obtain⟨zB,zD,zF,h1,h2⟩:=p;obtain mp:methodCallPos JQ (zW o (sh zw 0)) env (zw [2]).p (zw []).p=pure (zw []).p:=by unfold methodCallPos;rw[show(!JQ||(zw [2]).p.endLine==(zw []).p.line)=JQ by rw[JD hp];simp];rfl
 dsimp only;rw[mp];refine JR (JL (jw ns (JC (ha.go o3 ((c.next d).next zF)) (λws yq p=>?_) λzz zz x=>x.elim)));obtain⟨yg,yk,ze,uL⟩:=p;obtain uK:=VR.ext ze.ext _ h1;exact⟨dq c.ak.ok ze.rel uK hk,W.from (zF.trans ze) (hc.go ze.rel (((c.next d).next zF).next ze).ak uK (zS.append (zS.ext ze.ext _ h2) uL))⟩
end
open PySem PySem.W PySem.Calls PyProof.Rows
section
variable{P:Params}{f:FM}{C:OW}{h:Im}{prog:Program}{w:World}{k:List Nat}
theorem DR.length:∀{es:List (List Nat×V)}{ws:List Ig},DR P f C h es ws->ws.length=es.length|[],zo,e=>by cases e;rfl|zo::zY,zH,⟨ya,xk,vR,e,uV,r⟩=>by subst e;exact congrArg (.+1) (DR.length r)
theorem DR.keys:∀{es:List (List Nat×V)}{ws:List Ig},DR w.params f C h es ws->∀e∈ws,∃k,(strKind prog w).is k e.key=JQ/\e.hash=(strKind prog w).hash k
|[],zo,e=>by cases e;intro _ he;cases he
|(k,zo)::zY,zH,⟨t,w',ya,e,xk,r⟩=>by
 subst e;intro e he;rcases JJ.mp he with rfl|he;.exact⟨tx k,strKind_is prog w (tx k) t,rfl⟩
 .exact DR.keys r e he
theorem LN(k a:List Nat)(t:Tok):(strKind prog w).is (tx k) (.str (tx a) t)=zR k a:=gN a k
theorem DR.at{v:V}{wv:JM}{mh:Tok}:∀{es:List (List Nat×V)}{ws:List Ig},DR w.params f C h es ws->(X3 λi e u=>C5 ((ws.findIdx? λe=>(strKind prog w).is (tx k) e.key:Option Nat)=JS i) (ws[i]?=JS e) (zG k es=JS u) (VR f C h u e.val) (VR f C h v wv->DR w.params f C h (dput k v es) (ws.modify i λe=>{e with val:=wv})))\/(C3 ((ws.findIdx? λe=>(strKind prog w).is (tx k) e.key:Option Nat)=none) (zG k es=none) (VR f C h v wv->DR w.params f C h (dput k v es) (ws++[⟨Fe w.params (tx k),.str (tx k) mh,wv⟩])))
|[],zo,e=>by cases e;exact .inr ⟨rfl,rfl,λhv=>⟨mh,wv,[],rfl,hv,rfl⟩⟩
|(a,u)::es,zo,⟨t,w',r,e,e1,e2⟩=>by
 subst e;rw[GW];simp only[LN];unfold zG dput;cases q:zR k a with
 |true=>exact .inl ⟨0,_,u,rfl,rfl,rfl,e1,λhv=>⟨t,wv,r,rfl,hv,e2⟩⟩
 |false=>
  simp only[Iv,if_false];rcases DR.at (v:=v) (wv:=wv) (mh:=mh) e2 with⟨i,e,u',z,a1,a2,a3,a4⟩|⟨z,a1,a2⟩;.exact .inl ⟨i+1,e,u',by rw[z];rfl,a1,a2,a3,λhv=>⟨t,w',_,rfl,e1,a4 hv⟩⟩
  .exact .inr ⟨by rw[z];rfl,a1,λhv=>⟨t,w',_,rfl,e1,a2 hv⟩⟩
theorem fq(v:V):∀es:List (List Nat×V),(dput k v es).length<=es.length+1|[]=>JK _|(a,u)::es=>by unfold dput;cases zR k a with|true=>exact GC _|false=>exact Ik (fq v es)
theorem fp{v:V}{a:List Nat}:∀{es:List (List Nat×V)},a∈(dput k v es).map (·.1)→a=k∨a∈es.map (·.1)
|[],h=>.inl (JP.mp h)
|(c,w)::es,h=>by
 unfold dput at h;cases q:zR k c with
 |true=>rw[q]at h;exact .inr h
 |false=>
  rw[q]at h;rcases JJ.mp h with h|h;·exact .inr (h▸JH)
  ·exact(fp h).imp_right (J2 _)
theorem mB{v:V}:∀{es:List (List Nat×V)},(es.map (·.1)).Nodup→((dput k v es).map (·.1)).Nodup|[],zo=>Ia.mpr ⟨G1,HZ⟩|(c,w)::es,h=>by unfold dput;cases q:zR k c with|true=>exact h|false=>obtain⟨h1,h2⟩:=Ia.mp h;refine Ia.mpr ⟨fun z=>(fp z).elim (fun e=>?_) h1,mB h2⟩;rw[xj.mpr e.symm]at q;cases q
theorem jZ:∀{ps es:List (List Nat×V)},(es.map (·.1)).Nodup→((u2 ps es).map (·.1)).Nodup|[],zo,h=>h|p::ps,es,h=>jZ (ps:=ps) (es:=dput p.1 p.2 es) (mB h)
end
section
variable{F:Fr}{f:FM}{C:OW}{s:JI}{A:Ip}{Z:JM->JI->Prop}
theorem findIdx_toArray(p:Ig->Bool)(es:Array Ig):es.findIdx? p=es.toList.findIdx? p:=by cases es;simp
theorem fw{b:Bc}{d:J0}{es:List (List Nat×V)}{ents:Array Ig}{ep:Nat}{k:List Nat}{t:Tok}{v:V}{wv:JM}{Q:Unit->JI->Prop}(ho:s.heap.get? d=JS (xu ents ep))(hd:DR b.w.params f C s.heap es ents.toList)(hv:VR f C s.heap v wv)(hs:es.length<=sizeLine)(hQ:∀h' wV yW,IC d s.heap h'->h'.get? d=JS (xu wV yW)->DR b.w.params f C s.heap (dput k v es) wV.toList->Q () {s with heap:=h',toks:=s.toks+1}):wpAny (model b.prog b.w) A (dictSet d (.str (tx k) t) wv) Q Z s:=by
 obtain hk:KeysOf (strKind b.prog b.w) ents:=λe he=>DR.keys hd e (Ie.mpr he);unfold dictSet;refine JE (JR ((strKind b.prog b.w).pyHash (strKind_is b.prog b.w (tx k) t) ?_));unfold dictSetHashed;refine JE (JR (wpAny_dictFind_of (s:={s with toks:=s.toks+1}) (strKind_is b.prog b.w (tx k) t) ho rfl hk ?_));rw[findIdx_toArray];rcases DR.at (prog:=b.prog) (k:=k) (v:=v) (wv:=wv) (mh:=t) hd with⟨i,e,u,z,_,_,_,pu⟩|⟨z,_,pu⟩;.rw[z];refine JR (Gq (JR (wpAny_updateDict (s:={s with toks:=s.toks+1}) ho rfl (wpAny_point (hQ _ _ ep (Ir ..) (Ih _ ho rfl) ?_)))));rw[Array.toList_modify];exact pu hv
 .rw[z];refine JR (Gq (wpAny_updateDictKeys (hz:=by rewrite[<-J8];rw[hd.length];exact hs) (s:={s with toks:=s.toks+1}) ho rfl (hQ _ _ (ep+1) (Ir ..) (Ih _ ho rfl) ?_)));rw[GB];exact pu hv
theorem uw{h:Im}{a:J0}{o:Obj}(e:h.get? a=JS o)(hc:(o.cls==.type "tuple")=JT):¬isTup (h.get? a):=λ⟨zo,zY,zH,q⟩=>by replace q:=yc e q;cases q;cases hc
theorem gu{h h':Im}{d:J0}(hs:IC d h h')(ht:¬isTup (h.get? d)):vm f C h f C h':=⟨λzz zz e=>e,λc e n=>⟨hs.2 c λq=>ht (q▸e),n⟩⟩
noncomputable def PR(f:FM)(C:OW)(h:Im):List (List Nat×V)->List (JM×JM)->Prop|[],ws=>ws=[]|(k,v)::ps,ws=>X3 λt w r=>C3 (ws=(.str (tx k) t,w)::r) (VR f C h v w) (PR f C h ps r)
theorem PR.yn{f':FM}{zm:OW}{h h':Im}(x:vm f C h f' zm h'):∀{ps:List (List Nat×V)}{ws:List (JM×JM)},PR f C h ps ws->PR f' zm h' ps ws|[],zo,e=>e|zo::zY,zH,⟨t,w,r,e,e1,e2⟩=>⟨t,w,r,e,VR.yn x _ e1,PR.yn x e2⟩
theorem YW{b:Bc}{d:J0}(g:JM×JM->PUnit->Sem (ForInStep PUnit))(hg:∀k v u,g (k,v) u=(do dictSet d k v;pure (.yield ⟨⟩))):∀(ps:List (List Nat×V))(ws:List (JM×JM))(es:List (List Nat×V))(ents:Array Ig)(ep:Nat)(s:JI)(Q:PUnit->JI->Prop),PR f C s.heap ps ws->s.heap.get? d=JS (xu ents ep)->DR b.w.params f C s.heap es ents.toList->es.length+ps.length<=sizeLine->(∀h' wV yW tk,IC d s.heap h'->h'.get? d=JS (xu wV yW)->DR b.w.params f C h' (u2 ps es) wV.toList->Q ⟨⟩ {s with heap:=h',toks:=tk})->wpAny (model b.prog b.w) A (forIn ws ⟨⟩ g) Q Z s|[],ws,es,ents,ep,s,Q,hp,ho,hd,hl,hQ=>by cases hp;exact JL (hQ s.heap ents ep s.toks (Heap.SameBut.refl _ _) ho hd)|(k,v)::ps,zo,es,ents,ep,s,Q,⟨t,w,r,e,hv,hp⟩,ho,hd,hl,hQ=>by subst e;rewrite[Ge];rw[hg];rw[ID]at hl;refine JR (JR (fw ho hd hv (by lia) λh' wV yW hs Y4 dr=>JL ?_));have x:=gu (f:=f) (C:=C) hs (uw ho rfl);have sY:=fq (k:=k) v es;exact YW g hg ps r (dput k v es) wV yW _ Q (PR.yn x hp) Y4 (DR.yn x _ dr) (by lia) λxP fZ fY tk vz eu fj=>hQ xP fZ fY tk (hs.trans vz) eu fj
end
noncomputable def nA(env:Env)(pos:Pos):M->Pi->List (Sem JM×Sem JM)|.kv k v r,zw=>(eval (zW k (sh zw 0)) env,(do let x<-eval (zW v (sh zw 1)) env;standAt pos;pure x))::nA env pos r (sh zw 2)|zo,zY=>[]
theorem Mk{env:Env}{pos:Pos}(m:M):∀{zw:Pi},(evalEachOpt (mn m zw) env).zip ((evalEach (gz m zw) env).map λv=>do let x<-v;standAt pos;pure x)=(nA env pos m zw).map λp=>(JS p.1,p.2):=by induction m with|kv k v r zo zY ih=>intro zw;exact congrArg (_::.) ih|_=>intro zw;rfl
theorem Ml{env:Env}{pos:Pos}(m:M):∀{zw:Pi},(nA env pos m zw).length=(mn m zw).length:=by induction m with|kv k v r zo zY ih=>intro zw;exact congrArg (.+1) ih|_=>intro zw;rfl
section
variable{F:Fr}{L:Loc}{J zt zb yO zy:St}{f:FM}{C:OW}{s:JI}{A:Ip}{env:Env}{zw:Pi}
structure Kv(F:Fr)(L:Loc)(m:M)(J:St)(ps:List (List Nat×V))(zy:St):Prop where
 go:∀{zw:Pi}{env:Env}{A:Around}{f:FM}{C:OW}{s:Shared}{pos:Pos},yy F.b.X m zw env.scope=true->Cx F L J env A f C s->W F A (evalPairs (nA env pos m zw)) PR f C s (.ok ps zy)
theorem XA:Kv F L .nil J [] J:=⟨λzz c=>W.pure c.rel rfl⟩
theorem dh{k v r:M}{a:List Nat}{x:V}{ps:List (List Nat×V)}(hk:E F L k J (.ok (.str a) zt))(hv:E F L v zt (.ok x zb))(hr:Kv F L r zb ps yO):Kv F L (.kv k v r) J ((a,x)::ps) yO:=by refine⟨λ{zw env A f C s pos}ok c=>?_⟩;obtain⟨o1,o2⟩:=zh ok;obtain⟨o2,o3⟩:=zh o2;show W F A (eval (zW k (sh zw 0)) env>>=λkv=>holding [kv] (eval (zW v (sh zw 1)) env>>=λx=>standAt pos>>=λzz=>pure x)>>=λvv=>holding [kv,vv] (evalPairs (nA env pos r (sh zw 2)))>>=λr=>pure ((kv,vv)::r)) _ _ _ _ _;refine seq (hk.w o1 c) λwk f' zm s' d h1=>seq (v:=x) (rv:=rV) (JE (seq (hv.w o2 (c.next d)) λwv yg yk yq ze h2=>JR (J3 (W.pure ze.rel h2)))) λwv yg yk yq ze h2=>?_;refine seq (JE (hr.go o3 ((c.next d).next ze))) λl sZ sJ xy yP h3=>W.pure yP.rel ?_;obtain⟨t,rfl⟩:=h1;exact⟨t,_,_,rfl,VR.ext yP.ext _ h2,h3⟩
theorem ZA(r:Rl F.b f C J s.heap):Done F [] f C s (J++[.dict []]) (t9 f J.length s.heap.objs.size) (ows C [s.heap.objs.size] J.length) {s with heap:=s.heap.push (xu #[] 0)}:=pq (s':={s with heap:=s.heap.push (xu #[] 0)}) (a:=s.heap.objs.size) (l:=[s.heap.objs.size]) (m:=.dict []) r (xE _ _) rfl rfl (λc hc=>by rw[JP.mp hc];exact⟨tq (JK _),_,J7 _ rfl⟩) ⟨tE JH,#[],0,J7 _ rfl,rfl,HZ⟩
theorem jY:E F L (.wg .nil) J (.ok (.ref J.length) (J++[.dict []])):=by refine E.mk' rfl λ{zw env A f C s}ok c=>?_;show W F A (eval (.Dict [] [] _) env) _ _ _ _ _;rw[arm_eval_Dict];refine JR (J3 ?_);show W F A newDict _ _ _ _ _;refine Hj ?_ (by show(#[]:Array Ig).size<=sizeLine+1;exact I4 _);exact⟨_,_,ZA c.rel,_,t8,rfl⟩
theorem ZC{n:Nat}{a:J0}{es:List (List Nat×V)}{ents:Array Ig}{ep tk:Nat}{h':Im}(z9:F.s=JT)(r:Rl F.b f C J s.heap)(fa:f n=JS a)(w:C a=JS n)(hs:IC a s.heap h')(g:h'.get? a=JS (xu ents ep))(dr:DR F.b.w.params f C s.heap es ents.toList)(nd:(es.map (·.1)).Nodup):Done F [] f C s (J.set n (.dict es)) f C {s with heap:=h',toks:=tk}:=by obtain ex:∀{fr},Ext fr f C s.heap f C h':=Ext.write hs w ⟨_,g⟩;exact⟨ex,r.write hs w ⟨_,g⟩ fa ⟨w,ents,ep,g,DR.yn (ex (fr:=[])).v _ dr,nd⟩,rfl,rfl,fun z=>by replace z:=z9.symm.trans z;cases z⟩
theorem vk{n:Nat}{es:List (List Nat×V)}{a:J0}{h:Im}(r:Rl F.b f C J h)(fa:f n=JS a)(hn:J[n]?=JS (.dict es)):C a=JS n∧X2 fun ents ep=>C3 (h.get? a=JS (xu ents ep)) (DR F.b.w.params f C h es ents.toList) ((es.map (·.1)).Nodup):=by obtain⟨a',yt,w,R⟩:=r.objs n _ hn;replace yt:=yc fa yt;cases yt;exact⟨w,R⟩
theorem Ys{k v m:M}{ps:List (List Nat×V)}(z9:F.s=JT)(h:Kv F L (.kv k v m) (J++[.dict []]) ps zt)(hd:zt[J.length]?=JS (.dict []))(hs:short ps=JQ):E F L (.wg (.kv k v m)) J (.ok (.ref J.length) (zt.set J.length (.dict (u2 ps [])))):=by refine E.mk' rfl λ{zw env A f C s}ok c=>?_;obtain⟨o1,o2⟩:=zh ok;obtain hl:=JA o1;obtain pl:=Ml (env:=env) (pos:=(zw []).p) (.kv k v m) (zw:=sh zw 0);show W F A (eval (.Dict (mn (.kv k v m) (sh zw 0)) (gz (.kv k v m) (sh zw 0)) (zw []).p) env) _ _ _ _ _;rw[arm_eval_Dict];refine JR (J3 ?_);rewrite[Mk];rw[dictDisplay_pairs _ (by intro q;cases q) (by lia)];unfold subDict;refine JR (JR (Ei ?_));obtain d0:=ZA c.rel;refine JR (JE ?_);rw[if_pos (show(nA env (zw []).p (.kv k v m) (sh zw 0)).length<=15 by lia)];refine JR (JC (h.go o2 (c.next d0)) (λws zd p=>?_) λzz zz x=>x.elim);obtain⟨zB,zD,zF,pr⟩:=p;obtain fa:=zF.ext.wG _ _ (t8 (f:=f) (n:=J.length) (a:=s.heap.objs.size));obtain⟨w,ents,ep,g,dr,nd⟩:=vk zF.rel fa hd;obtain e0:ents=#[]:=Eo.mp dr;subst e0;refine JE (JR ?_);refine YW (f:=zB) (C:=zD) _ (λzz zz zz=>rfl) ps ws [] #[] ep zd _ pr g rfl (by rewrite[Hh];rw[Nat.zero_add];exact vO hs) λh' wV yW tk sU hg mA=>?_;refine JL (JL (JL ?_));obtain ex:Ext [] zB zD zd.heap zB zD h':=Ext.write sU w ⟨_,hg⟩;obtain d2:Done F [] zB zD zd (zt.set J.length (.dict (u2 ps []))) zB zD {zd with heap:=h',toks:=tk}:=⟨ex,zF.rel.write sU w ⟨_,hg⟩ fa ⟨w,wV,yW,hg,mA,jZ HZ⟩,rfl,rfl,λz=>by replace z:=z9.symm.trans z;cases z⟩;exact⟨zB,zD,(d0.trans zF).trans d2,_,fa,rfl⟩
end
open PySem PySem.W PySem.Calls PyProof.Rows
noncomputable def ru(b:Bc)(C:OW)(h:Im)(e:J0):Prop:=X2 λoe vs=>C4 (h.get? e=JS oe) (oe.data=.fields vs) (6<=vs.size) (bR b C h e vs)
theorem ru.YR{b:Bc}{C:OW}{h:Im}{e:J0}(x:ru b C h e):oV b C h e:=let⟨o,vs,a,b,c,d⟩:=x;⟨o,vs,a,b,c,.inr d⟩
structure mX(A:Ip)(env:Env):Prop where
 top:∃outer,A.frames=some (env::outer)
 frame:env.frame=some env.locals
section
variable{F:Fr}{fr:List J0}{f f':FM}{C zm:OW}{h h':Im}{s s':JI}{J:St}{A:Ip}{env:Env}{L e:J0}{n c:Nat}{fs:List (Nat×V)}{M:Model}{E:JM->JI->Prop}
theorem set_same{zi:Type}{J:List zi}{n:Nat}{o:zi}(h:J[n]?=JS o):J.set n o=J:=by
 apply List.ext_getElem?;intro i;by_cases q:i=n;.subst q;rewrite[II (y0 h)];rw[h]
 .rw[Hl (Hk q)]
theorem LR{S:List J0}(r:Rl F.b f C J h)(x:Heap.SlotsOnly S h h')(hS:∀L∈S,C3 (C L=none) (F.b.B.get? L=none) (∃o,h.get? L=JS o/\o.cls=.type "frame")):Rl F.b f C J h'/\∀{fr},Ext fr f C h f C h':=by
 have ex:∀{fr},Ext fr f C h f C h':=by
  intro fr;refine⟨λzz zz e=>e,λzz zz e=>e,λzz zz e=>.inl e,λc o e=>let⟨sl,z⟩:=x.2.2 c o e;⟨_,z⟩,λc o e q zz zz=>?_,λc e q=>x.2.1 c λk=>?_⟩
  .by_cases k:c∈S;.obtain⟨_,_,o',e',hc⟩:=hS c k;replace e':=yc e e';cases e';obtain⟨sl,z⟩:=x.2.2 c o e;exact .inr ⟨hc,sl,z⟩
   .exact .inl ((x.2.1 c k).trans e)
  .obtain⟨_,_,o',e',hc⟩:=hS c k;exact uw e' (by rw[hc];decide) e
 refine⟨r.rJ (ex (fr:=[])).v (λc o e=>(x.2.1 c λk=>?_).trans (r.base c o e)) λn c o e w=>(x.2.1 c λk=>?_).trans e,ex⟩;.rw[(hS c k).2]at e;cases e
 .rw[(hS c k).1]at w;cases w
theorem VN{T:J0}{oT:Obj}(g:Obj->Obj){o':Obj}(al:(h.update T g).get? T=JS o')(r:Rl F.b f C J h)(hT:h.get? T=JS oT)(hc:oT.cls=.type "traceback")(hB:F.b.B.get? T=none)(ho:C T=none):Rl F.b f C J (h.update T g)/\∀{fr},Ext fr f C h f C (h.update T g):=by
 have hs:=Ir h T g;have ex:∀{fr},Ext fr f C h f C (h.update T g):=by
  intro fr;refine⟨λzz zz e=>e,λzz zz e=>e,λzz zz e=>.inl e,λc o e=>?_,λc o e q zz ht=>.inl ((hs.2 c λz=>ht ?_).trans e),λc e q=>hs.2 c λz=>?_⟩
  .by_cases q:c=T;.exact⟨o',q▸al⟩
   .exact⟨o,(hs.2 c q).trans e⟩
  .rw[z,hT]at e;cases e;exact hc
  .rw[z]at e;exact uw hT (by rw[hc];decide) e
 refine⟨r.rJ (ex (fr:=[])).v (λc o e=>(hs.2 c λz=>?_).trans (r.base c o e)) λn c o e w=>(hs.2 c λz=>?_).trans e,ex⟩;.rw[z,hB]at e;cases e
 .rw[z,ho]at w;cases w
theorem LV(r:Rl F.b f C J h)(fn:f n=JS e)(wC:J[n]?=JS (.exc c JQ fs))(i:Nat)(v:JM):Rl F.b f C J (h.update e (I9 (·.setIfInBounds i v)))∧∀{fr},Ext fr f C h f C (h.update e (I9 (·.setIfInBounds i v))):=by
 obtain⟨a,fa,w,wO,vs,g,sz,hq⟩:=r.objs n _ wC;replace fa:=yc fn fa;cases fa;obtain hs:=Ir h e (I9 (·.setIfInBounds i v));obtain g':(h.update e (I9 (·.setIfInBounds i v))).get? e=JS ⟨.ref c,wO,.fields (vs.setIfInBounds i v),#[]⟩:=Ih _ g rfl;have ex:∀{fr},Ext fr f C h f C (h.update e (I9 (·.setIfInBounds i v))):=Ext.write hs w ⟨_,g'⟩;refine⟨?_,ex⟩;obtain eJ:qK f C (h.update e (I9 (·.setIfInBounds i v))) n e fs wO:=by cases wO with|none=>exact hq|some dx=>obtain⟨w',ne,m,⟨o,es,ep,z,z1,z2,z3,z4⟩,hf⟩:=hq;exact⟨w',ne,m,⟨o,es,ep,(hs.2 dx ne).trans z,z1,z2,z3,z4⟩,FR.yn (ex (fr:=[])).v hf⟩
 obtain this:=r.write hs w ⟨_,g'⟩ fn (o:=.exc c JQ fs) ⟨w,wO,_,g',⟨by rw[HF];exact sz.1,(fun q=>nomatch q),sz.3⟩,eJ⟩;rw[set_same wC]at this;exact this
theorem LU{Q:JM->JI->Prop}(r:Rl F.b f C J s.heap)(a:xV F A C s.heap)(x:mX A env)(hQ:∀h',Rl F.b f C J h'->(∀{fr},Ext fr f C s.heap f C h')->(∀b o vs,s.heap.get? b=JS o->o.data=.fields vs->h'.get? b=JS o)->Q (.ref env.locals) {s with heap:=h'}):wpAny M A (frameOf env) Q E s:=by
 obtain⟨outer,ht⟩:=x.top;obtain⟨l,a1,a2,a3⟩:=a.frames;replace a1:=yc ht a1;cases a1;refine wpAny_frameOf_fun ht a2 x.frame λh' hs=>?_;obtain⟨r',x'⟩:=LR r hs λL hL=>by obtain⟨en,he,hq⟩:=List.mem_filterMap.mp hL;obtain⟨w,o,ho,hc⟩:=a3 en he L hq;exact⟨w,(a2.mem hL).1,o,ho,hc⟩
 refine hQ h' r' x' λc o vs ho hd=>(hs.2.1 c λhm=>?_).trans ho;obtain⟨_,o',vi,PM⟩:=a2.mem hm;replace vi:=yc ho vi;cases vi;exact PM vs hd
theorem WW{oe:Obj}{vs:Array JM}{head:JM}{QF:Bool}{Q:Unit->JI->Prop}(z9:F.s=JT)(r:Rl F.b f C J s.heap)(a:xV F A C s.heap)(x:mX A env)(fn:f n=JS e)(wC:J[n]?=JS (.exc c JQ fs))(he:s.heap.get? e=JS oe)(hd:oe.data=.fields vs)(uy:6<=vs.size)(hQ:∀s',Done F [] f C s J f C s'->ru F.b C s'.heap e->Q () s'):wpAny M A (do let a<-frameOf env;let pl<-entryPlaceOf env.locals QF;let b<-FQ head a .none (rawInt env.locals) .none pl;setField (.ref e) 1 b) Q E s:=by
 refine JR (LU r a x λwL qU og nR=>?_);obtain Y':=nR _ _ _ he hd;refine JR (wpAny_entryPlaceOf λpl sV=>?_);unfold FQ newFields;refine JR (Hj ?_ (sV.sizeOk5 _ _ _ _ _));generalize hT:(⟨.type "traceback",none,.fields ([head,.ref env.locals,.none,rawInt env.locals,.none]++(if pl.isEmpty then Ea 6 Hz else pl)).toArray,#[]⟩:Obj)=oT;obtain⟨ts,Xk,y,hy⟩:∃ts,oT.data=.fields ts/\∃y,ts[3]?=JS y:=by rw[<-hT];exact⟨_,rfl,rawInt env.locals,by simp⟩
 obtain QH:oT.cls=.type "traceback":=by rw[<-hT]
 obtain iE:=qU.grow (xE _ oT);obtain pZ:=xE _ oT _ _ Y';refine GV pZ hd (by lia) ?_;obtain⟨Ls,KN⟩:=LV iE fn wC 1 (HS wL.objs.size);obtain yN:=I7 Y';obtain⟨nw,nB⟩:=ta qU (JK wL.objs.size);refine hQ _ ⟨(og.trans (Ext.grow (xE _ oT))).trans KN,Ls,rfl,rfl,λq=>by replace q:=z9.symm.trans q;cases q⟩ ⟨_,_,Ih _ pZ (HR (HV hd _)),HV hd _,by rw[HF];exact uy,wL.objs.size,oT,ts,y,by simp[show 1<vs.size by lia],G_ yN,?_,QH,Xk,hy,nB,nw⟩;exact(HU _ _ (IP yN)).trans (J7 _ (HR Xk))
theorem dD{Q:Unit→JI→Prop}(z9:F.s=JT)(r:Rl F.b f C J s.heap)(a:xV F A C s.heap)(x:mX A env)(fn:f n=JS e)(wC:J[n]?=JS (.exc c JQ fs))(hi:oV F.b C s.heap e)(hQ:∀s',Done F [] f C s J f C s'→ru F.b C s'.heap e→Q () s'):wpAny M A (noteFrame (.ref e) env) Q E s:=by
 obtain⟨oe,vs,he,hd,uy,h1|ht⟩:=hi;·unfold noteFrame;simp only[x.frame];refine JR (H5 he hd h1 ?_);rw[if_neg (by decide)];exact WW z9 r a x fn wC he hd uy hQ
 ·obtain⟨T,oT,ts,y,t0,t1,t2,t3,t4,t5,t6,t7⟩:=id ht;unfold noteFrame;simp only[x.frame];refine JR (H5 he hd t0 ?_);rw[if_pos (show(HS T !=Hz)=JQ from by simp)];refine JR (H5 t2 t4 t5 ?_);split;·exact JL (hQ _ (Done.refl r) ⟨oe,vs,he,hd,uy,ht⟩)
  ·refine JR (GV t2 t4 (GU.mp t5).1 ?_);obtain⟨qU,og⟩:=VN (I9 (·.setIfInBounds 3 Hz)) (Ih _ t2 (HR (HV t4 _))) r t2 t3 t6 t7;exact WW (s:={s with heap:=_}) z9 qU (a.ext og) x fn wC ((HU _ _ t1).trans he) hd uy fun s' d t=>hQ s' ⟨og.trans d.ext,d.rel,d.gens,d.os,fun q=>by replace q:=z9.symm.trans q;cases q⟩ t
theorem jS{fl:Option J0}{Q:Unit→JI→Prop}(r:Rl F.b f C J s.heap)(hi:ru F.b C s.heap e)(hQ:∀s',Done F [] f C s J f C s'→ru F.b C s'.heap e→Q () s'):wpAny M A (setFlight (.ref e) fl) Q E s:=by obtain⟨oe,vs,he,hd,uy,T,oT,ts,y,t0,t1,t2,t3,t4,t5,t6,t7⟩:=hi;unfold setFlight;refine JR (H5 he hd t0 ?_);rw[if_pos (show(HS T !=Hz)=JQ from by simp)];have h3:=(GU.mp t5).1;refine GV t2 t4 h3 ?_;obtain g:(s.heap.update T (I9 (·.setIfInBounds 3 (fl.elim Hz fun f=>rawInt f)))).get? T=JS _:=Ih _ t2 (HR (HV t4 _));obtain⟨qU,og⟩:=VN (I9 (·.setIfInBounds 3 (fl.elim Hz fun f=>rawInt f))) g r t2 t3 t6 t7;exact hQ _ ⟨og,qU,rfl,rfl,fun zz c n o w e=>(HU _ _ (fun z=>by rw[←z,t7]at w;cases w)).trans e⟩ ⟨oe,vs,(HU _ _ t1).trans he,hd,uy,T,_,_,fl.elim Hz fun f=>rawInt f,t0,t1,g,(Obj.cls_mapFields ..).trans t3,HV t4 _,by simp[h3],t6,t7⟩
theorem O2{Q:Unit->JI->Prop}(z9:F.s=JT)(r:Rl F.b f C J s.heap)(a:xV F A C s.heap)(x:mX A env)(fn:f n=JS e)(wC:J[n]?=JS (.exc c JQ fs))(hi:oV F.b C s.heap e)(hQ:∀s',Done F [] f C s J f C s'->ru F.b C s'.heap e->Q () s'):wpAny M A (leaving env (.ref e)) Q E s:=by unfold leaving;exact JR (dD z9 r a x fn wC hi λzd zF Ks=>jS zF.rel Ks λyq ze kP=>hQ yq (zF.trans ze) kP)
theorem Rx{Q:JM->JI->Prop}{env:Env}(r:Rl F.b f C J s.heap)(hi:ru F.b C s.heap e)(hQ:∀s',Done F [] f C s J f C s'->ru F.b C s'.heap e->Q (.ref e) s'):cameBackBy M A env Q (.ref e) s:=by unfold cameBackBy;obtain⟨oe,vs,he,hd,uy,T,oT,ts,y,t0,t⟩:=id hi;refine JR (H5 he hd t0 ?_);rw[if_neg (show¬((HS T==Hz)=JQ)from by simp)];exact jS r hi hQ
end
open PySem PySem.W PySem.Calls PyProof.Rows
theorem W5(name:Str)(hh:Int)(key v:JM)(o:Obj):(Obj.putName name hh key v o).cls=o.cls:=by obtain⟨c,d,dt,sl⟩:=o;rw[H'];cases dt with|dict es n=>show(match es.findIdx? (λe=>(EV e).isStr name)with|JS i=>(⟨c,d,.dict (es.modify i λe=>{e with val:=v}) n,sl⟩:Obj)|none=>⟨c,d,.dict (es.push ⟨hh,key,v⟩) (n+1),sl⟩).cls=c;cases es.findIdx? (λe=>(EV e).isStr name)<;>rfl|_=>rfl
section
variable{M:Model}{A:Ip}{E:JM->JI->Prop}{s:JI}
theorem Um{a:J0}{o:Obj}{es:Array Ig}{ep:Nat}{name:Str}{v:JM}{Q:Unit→JI→Prop}(ho:s.heap.get? a=JS o)(hd:o.data=.dict es ep)(hk:StrKeys es)(hQ:∀h' o' uN yW,h'.get? a=JS o'→o'.cls=o.cls→o'.data=.dict uN yW→StrKeys uN→(∀x,nsFind uN x=if x=name then JS v else nsFind es x)→uN.size≤(if(nsFind es name).isSome then es.size else es.size+1)→IC a s.heap h'→Q () {s with heap:=h',toks:=s.toks+1}):wpAny M A (nsSet a name v) Q E s:=fun KD p zz=>by
 simp only[nsSet,strHash,Sem.wp_bind',Sem.wp_cmd_ask,Sem.wp_pure',Sem.wp_cmd_mkText];rw[Sem.wp_loadPart_of M KD _ p {s with toks:=s.toks+1} (o:=o) _ ho];obtain QE:es.any (·.refKey)=JT:=by rw[Array.any_eq_false'];intro e he;obtain⟨n,t,h⟩:=hk e he;simp[En,h]
 simp only[hd,aRefKeyMayBeTheName_eq,aRefKeyMayBeTheNameByArray,QE,GS,Iv,if_false,Sem.wp_cmd_updatePart];refine⟨by rw[ho];rfl,?_⟩;obtain⟨cl,d,dt,sl⟩:=o;subst hd;obtain hs:nsFind es name=_:=findBy_of_findIdx? (fun n v=>v.isStr n) es name;cases hi:es.findIdx? (·.key.isStr name)with
 |some i=>
  rw[hi]at hs;refine hQ _ _ _ ep (Ih _ ho (by simp only[H',H8,hi];rfl)) (W5 ..) (by simp only[H',H8,hi]) (hk.modify _ _) (fun x=>findBy_modify (fun n v=>v.isStr n) Value.isStr_inj es name x v i hi) ?_ (Ir ..);rewrite[if_pos];rw[Array.size_modify];·exact JK _
  ·rw[hs];dsimp only;rw[GI (Array.findIdx?_eq_some_iff_getElem.mp hi).1];rfl
 |none=>
  rw[hi]at hs;refine hQ _ _ _ (ep+1) (Ih _ ho (by simp only[H',H8,hi];rfl)) (W5 ..) (by simp only[H',H8,hi];rfl) (hk.push _ _ _ _) (fun x=>findBy_push (fun n v=>v.isStr n) es name x _ _ v (fun y=>?_) hi) ?_ (Ir ..);·show(name==y)=decide (y=name);rewrite[Ee];rewrite[beq_iff_eq];rw[decide_eq_true_eq];exact eq_comm
  ·rewrite[if_neg (show¬(nsFind es name).isSome=JQ from by rw[hs];exact IZ)];rw[Array.size_push];exact JK _
end
theorem sP(y z:Nat)(w:V)(r:Loc):lk y ((z,w)::r)=if y=z then JS w else lk y r:=by
 show(match JG y z with|JQ=>JS w|JT=>lk y r)=_;by_cases q:y=z;.subst q;rewrite[Gz];rw[if_pos rfl]
 .rewrite[if_neg q];rw[(Bool.eq_false_iff.mpr λe=>q (JD e))]
theorem vI(x:Nat)(v:V):∀(L:Loc)(y:Nat),lk y (st x v L)=if y=x then JS v else lk y L
|[],y=>sP y x v []
|(z,w)::r,y=>by
 unfold st;cases hz:JG x z with
 |true=>
  have e:=JD hz;subst e;show lk y ((x,v)::r)=_;rewrite[sP];rw[sP];by_cases q:y=x;.rewrite[if_pos q];rw[if_pos q]
  .rewrite[if_neg q];rewrite[if_neg q];rw[if_neg q]
 |false=>
  show lk y ((z,w)::st x v r)=_;rewrite[sP];rewrite[sP];rw[vI x v r y];by_cases q:y=x;.subst q;rewrite[if_neg (λe=>by rw[e,Gz]at hz;cases hz)];rewrite[if_pos rfl];rw[if_pos rfl]
  .rewrite[if_neg q];rw[if_neg q]
noncomputable def xH(env:Env):List J0:=env.locals::env.cells.map (·.2)
theorem dO{env:Env}{n:Str}{c:J0}(h:(n,c)∈env.cells):c∈xH env:=J2 _ (FP (f:=(·.2)) h)
theorem jQ{env:Env}{c:J0}(h:c∈xH env):c=env.locals\/∃n,(n,c)∈env.cells:=(JJ.mp h).imp_right λz=>by obtain⟨⟨n,_⟩,hm,rfl⟩:=IG.mp z;exact⟨n,hm⟩
structure tT(b:Bc)(env:Env):Prop where
 dW:b.B.get? env.locals=none
 Ro:env.func.isSome=true->∀n c,env.cells.lookup n=some c->b.B.get? c=none
 apart:env.func.isSome=true->env.cells.Pairwise λx y=>x.2≠y.2
noncomputable def rx(env:Env)(fr:List J0)(x:Nat):Prop:=(env.func.isSome=JQ/\fr=xH env)\/(vW env.scope (nm x)=JS .local/\fr=[env.locals])
section
variable{F:Fr}{fr:List J0}{f:FM}{C:OW}{h h':Im}{s s':JI}{J:St}{A:Ip}{env:Env}{L:Loc}{M:Model}{E:JM->JI->Prop}
theorem rx.loc{x:Nat}(h:rx env fr x):env.locals∈fr:=by rcases h with⟨_,q⟩|⟨_,q⟩<;>rw[q]<;>exact JH
theorem cE{a:J0}{o:Obj}{tk:Nat}(r:Rl F.b f C J s.heap)(hs:IC a s.heap h')(ho:s.heap.get? a=JS o)(hc:(o.cls==.type "tuple")=JT)(hB:F.b.B.get? a=none)(w:C a=none)(hm:a∈fr)(al:∃o,h'.get? a=JS o):Done F fr f C s J f C {s with heap:=h',toks:=tk}:=by
 have nw:∀{c n},C c=JS n->c≠a:=λz q=>by rw[q,w]at z;cases z
 obtain ex:Ext fr f C s.heap f C h':=by
  refine⟨λzz zz e=>e,λzz zz e=>e,λzz zz e=>.inl e,λc p e=>?_,λc p e zz hf zz=>.inl ((hs.2 c λz=>hf (z▸hm)).trans e),λc e zz=>hs.2 c λz=>uw ho hc (z▸e)⟩;by_cases q:c=a;.rw[q];exact al
  .exact⟨p,(hs.2 c q).trans e⟩
 exact⟨ex,r.rJ ex.v (λc p e=>(hs.2 c λz=>by rw[z,hB]at e;cases e).trans (r.base c p e)) λn c p e z=>(hs.2 c (nw z)).trans e,rfl,rfl,λzz c n o z e=>(hs.2 c (nw z)).trans e⟩
theorem jU{T:String}(h1:T≠"frame")(h2:T≠"dict")(env:Env):(I' (sb env)==.type T)=JT:=beq_false_of_ne λq=>by
 obtain this:=Value.type.inj q;unfold sb at this;split at this;.exact h1 this.symm
 .exact h2 this.symm
theorem yj.gE(e:yj f C h env L):∀n c,(n,c)∈env.cells->c≠env.locals:=λn c hn q=>by obtain⟨m,⟨o,es,ep,a1,a2,_⟩,_⟩:=e.loc;obtain⟨_,u,g⟩:=e.cells n c hn;rw[q,a1]at g;cases g;exact beq_eq_false_iff_ne.mp (jU (T:="cell") (by decide) (by decide) env) a2.symm
theorem K_{c:J0}{Ke v:Option JM}{Q:Unit->JI->Prop}(ho:s.heap.get? c=JS ⟨.type "cell",none,.cell Ke,#[]⟩)(h:∀h',h'.get? c=JS ⟨.type "cell",none,.cell v,#[]⟩->IC c s.heap h'->Q () {s with heap:=h'}):wpAny M A (cellSet c v) Q E s:=by unfold cellSet;exact JR (wpAny_load ho (wpAny_update ho (h _ (Ih _ ho rfl) (Ir ..))))
theorem WY(e:yj f C h env L):(env.scope.kind==.class||(env.scope.kind==.module&&env.locals !=env.globals))=JT:=by rw[e.kind];rfl
theorem LQ{env:Env}{x:Str}{w:JM}(q:env.kindOf x=JS .cell)(k:env.scope.kind=.function):storeName env x w=(do cellSet (<-cellOf env x) (JS w)):=by unfold storeName;rewrite[q];rw[k];rfl
theorem cC{x:Nat}{v:V}{w:JM}{Q:Unit->JI->Prop}(r:Rl F.b f C J s.heap)(e:yj f C s.heap env L)(z:tT F.b env)(hk:vq env.scope (nm x)=JQ)(hf:rx env fr x)(hv:VR f C s.heap v w)(hQ:∀s',Done F fr f C s J f C s'->yj f C s'.heap env (st x v L)->Q () s'):wpAny M A (storeName env (nm x) w) Q E s:=by
 rcases(Iq _ _).mp hk with q|q
 .have q:vW env.scope (nm x)=JS .local:=eq_of_beq q;obtain⟨m,⟨o,es,ep,a1,a2,a3,a4,a5⟩,hl⟩:=e.loc;rw[storeName_local q (WY e)];refine Um a1 a3 a4 λh' o' uN yW b1 b2 b3 b4 b5 zz hs=>?_;obtain d:=cE (F:=F) (fr:=fr) (tk:=s.toks+1) r hs a1 (by rw[a2];exact jU (by decide) (by decide) env) z.dW e.own hf.loc ⟨_,b1⟩;have vx:=gu (f:=f) (C:=C) hs (uw a1 (by rw[a2];exact jU (by decide) (by decide) env));refine hQ _ d ⟨e.kind,e.glob,e.blt,e.own,e.has,⟨λy=>if y=nm x then JS w else m y,⟨o',uN,yW,b1,b2.trans a2,b3,b4,λy=>?_⟩,λy u hu ue=>?_⟩,λn c hn=>?_,λy u hu ue=>?_⟩;.rewrite[b5];rw[a5]
  .rw[vI]at hu;by_cases p:y=x;.rw[if_pos p]at hu;cases hu;exact⟨w,if_pos (by rw[p]),VR.yn vx _ hv⟩
   .rw[if_neg p]at hu;obtain⟨w',c1,c2⟩:=hl y u hu ue;exact⟨w',(if_neg (iV p)).trans c1,VR.yn vx _ c2⟩
  .obtain⟨g1,u,g2⟩:=e.cells n c hn;exact⟨g1,u,(hs.2 c (e.gE n c hn)).trans g2⟩
  .rw[vI]at hu;by_cases p:y=x;.subst p;obtain q:env.kindOf (nm y)=JS .local:=q;rw[q]at ue;rcases ue with ue|ue<;>cases ue
   .rw[if_neg p]at hu;obtain⟨c',w',g1,g2,g4⟩:=e.cell y u hu ue;exact⟨c',w',g1,(hs.2 c' (e.gE _ c' (mem_of_lookup g1))).trans g2,VR.yn vx _ g4⟩
 .have q:vW env.scope (nm x)=JS .cell:=eq_of_beq q;obtain⟨Xz,rfl⟩:env.func.isSome=JQ/\fr=xH env:=hf.elim id λz=>by rw[q]at z;cases z.1
  obtain⟨c,hc⟩:=e.has _ q;obtain⟨d1,u,d2⟩:=e.cells _ c (mem_of_lookup hc);have q':env.kindOf (nm x)=JS .cell:=q;rw[LQ q' e.kind];refine JR (wpAny_cellOf hc (K_ d2 λh' vi hs=>?_));obtain d:=cE (F:=F) (fr:=xH env) (tk:=s.toks) r hs d2 rfl (z.Ro Xz _ c hc) d1 (dO (mem_of_lookup hc)) ⟨_,vi⟩;have vx:=gu (f:=f) (C:=C) hs (uw d2 rfl);obtain⟨m,⟨o,es,ep,a1,a2,a3,a4,a5⟩,hl⟩:=e.loc;refine hQ _ d ⟨e.kind,e.glob,e.blt,e.own,e.has,⟨m,⟨o,es,ep,(hs.2 _ (e.gE _ c (mem_of_lookup hc)).symm).trans a1,a2,a3,a4,a5⟩,λy u hu ue=>?_⟩,λn c' hn=>?_,λy u hu ue=>?_⟩
  .rw[vI]at hu;by_cases p:y=x;.rw[p,q']at ue;cases ue
   .rw[if_neg p]at hu;obtain⟨w',c1,c2⟩:=hl y u hu ue;exact⟨w',c1,VR.yn vx _ c2⟩
  .by_cases p:c'=c;.subst p;exact⟨d1,_,vi⟩
   .obtain⟨g1,u,g2⟩:=e.cells n c' hn;exact⟨g1,u,(hs.2 c' p).trans g2⟩
  .rw[vI]at hu;by_cases p:y=x;.rw[if_pos p]at hu;cases hu;subst p;exact⟨c,w,hc,vi,VR.yn vx _ hv⟩
   .rw[if_neg p]at hu;obtain⟨c',w',g1,g2,g4⟩:=e.cell y u hu ue;exact⟨c',w',g1,(hs.2 c' λk=>iV p (name_of_addr (z.apart Xz) (mem_of_lookup g1) (k▸mem_of_lookup hc))).trans g2,VR.yn vx _ g4⟩
theorem oO{x:Nat}{v:V}{w:JM}{Q:Unit->JI->Prop}(r:Rl F.b f C J s.heap)(e:yj f C s.heap env L)(z:tT F.b env)(hk:vq env.scope (nm x)=JQ)(hf:rx env fr x)(hv:VR f C s.heap v w)(hQ:∀s',Done F fr f C s J f C s'->yj f C s'.heap env (st x v L)->Q () s'):wpAny M A (bindName env (nm x) w) Q E s:=wpAny_bindName (cC r e z hk hf hv hQ)
theorem Kr{x:Nat}{pos:Pos}{Q:Unit->JI->Prop}(r:Rl F.b f C J s.heap)(e:yj f C s.heap env L)(z:tT F.b env)(hk:vW env.scope (nm x)=JS .local)(hQ:∀s',Done F [env.locals] f C s J f C s'->Q () s'):wpAny M A (do bindName env (nm x) .none;unbindBehindTheSuite env (nm x) pos) Q E s:=by refine JR (oO (fr:=[env.locals]) (v:=.none) r e z (by unfold vq pP;rw[hk];rfl) (.inr ⟨hk,rfl⟩) rfl λzd zF xI=>?_);unfold unbindBehindTheSuite;obtain⟨m,n,hl⟩:=xI.loc;obtain⟨o,es,ep,a1,a2,_⟩:=id n;obtain⟨w,hw,_⟩:=hl x .none (by rewrite[vI];rw[if_pos rfl]) hk;refine wpAny_onRaise (wpAny_unbindName_local hk n.ns hw (WY xI) λh' u pW hs=>?_);obtain⟨o',_,_,g,_⟩:=pW;exact hQ _ (zF.trans (cE (tk:=zd.toks) zF.rel hs a1 (by rw[a2];exact jU (by decide) (by decide) env) z.dW xI.own JH ⟨o',g⟩))
end
open PySem PySem.W PySem.Calls PyProof.Rows
noncomputable def rt(F:Fr)(env:Env)(f:FM)(C:OW)(s:JI):SR->Flow->JI->Prop|.ok .next L zy,c,s'=>c=.next/\X2 λf' zm=>Done F (xH env) f C s zy f' zm s'/\yj f' zm s'.heap env L|.ok (.ret v) zo zy,c,s'=>X3 λw f' zm=>C3 (c=.ret w) (Done F (xH env) f C s zy f' zm s') (VR f' zm s'.heap v w)|.exc zo zY zH,ya,xk=>False
noncomputable def tU(F:Fr)(env:Env)(f:FM)(C:OW)(s:JI):SR->JM->JI->Prop|.ok zo zY zH,ya,xk=>False|.exc e L zy,x,s'=>X4 λn a c fs=>C4 (e=.ref n) (x=.ref a) (zy[n]?=JS (.exc c JQ fs)) (X2 λf' zm=>C4 (Done F (xH env) f C s zy f' zm s') (yj f' zm s'.heap env L) (f' n=JS a) (oV F.b zm s'.heap a))
noncomputable def WS(F:Fr)(env:Env)(A:Ip)(t:Sem Flow)(f:FM)(C:OW)(s:JI)(out:SR):Prop:=wpAny (model F.b.prog F.b.w) A t (rt F env f C s out) (tU F env f C s out) s
structure FnE(F:Fr)(A:Ip)(env:Env):Prop where
 fr:mX A env
 st:tT F.b env
 func:env.func.isSome=true
 rJ:F.s=false
structure Sx(F:Fr)(L:Loc)(J:St)(env:Env)(A:Ip)(f:FM)(C:OW)(s:JI):Prop extends Cx F L J env A f C s,FnE F A env
section
variable(F:Fr)(L:Loc)
structure X1(m:S)(J:St)(out:SR):Prop where
 go:∀{zw:Pi}{env:Env}{A:Around}{f:FM}{C:OW}{s:Shared},uD F.b.X m zw env.scope=true->Sx F L J env A f C s->WS F env A (exec (toS m zw) env) f C s out
structure XB(m:S)(J:St)(out:SR):Prop where
 go:∀{zw:Pi}{env:Env}{A:Around}{f:FM}{C:OW}{s:Shared},uD F.b.X m zw env.scope=true->Sx F L J env A f C s->WS F env A (execs (uX m zw) env) f C s out
end
section
variable{F:Fr}{L zN L':Loc}{J zt zb yO rA zy:St}{f f' zB:FM}{C zm zD:OW}{h h':Im}{s s' zd:JI}{A:Ip}{env:Env}{zw:Pi}{out:SR}
theorem rt.from{c:Flow}(d:Done F (xH env) f C s zt zB zD zd)(p:rt F env zB zD zd out c s'):rt F env f C s out c s':=by
 cases out with
 |ok fl L J=>cases fl with|next=>exact p.imp_right λ⟨f,C,p,q⟩=>⟨f,C,d.trans p,q⟩|ret=>exact let⟨w,f,C,p,q,r⟩:=p;⟨w,f,C,p,d.trans q,r⟩
 |exc=>exact p
theorem tU.from{x:JM}(d:Done F (xH env) f C s zt zB zD zd)(p:tU F env zB zD zd out x s'):tU F env f C s out x s':=by cases out with|ok=>exact p|exc=>exact let⟨n,a,c,fs,e1,e2,e3,f,C,p,q,q',Mi⟩:=p;⟨n,a,c,fs,e1,e2,e3,f,C,d.trans p,q,q',Mi⟩
theorem WS.from{t:Sem Flow}(d:Done F (xH env) f C s zt zB zD zd)(p:WS F env A t zB zD zd out):wpAny (model F.b.prog F.b.w) A t (rt F env f C s out) (tU F env f C s out) zd:=JC p (λzz zz=>rt.from d) λzz zz=>tU.from d
theorem xV.Y_(x:Ext (xH env) f C h f' zm h')(e:yj f C h env L)(e':yj f' zm h' env zN)(hf:env.func.isSome=JQ)(a:xV F A C h):xV F A zm h':=a.to λK o w g c=>by
 refine⟨x.own g w,?_⟩;by_cases q:K∈xH env
 .rcases jQ q with rfl|⟨n,hm⟩;.obtain⟨_,⟨o',_,_,b1,b2,b3,_⟩,_⟩:=e'.loc;exact⟨o',b1,by rw[b2];unfold sb;rw[if_pos hf],λzz vs z=>by replace z:=b3.symm.trans z;cases z⟩
  .obtain⟨_,u,g'⟩:=e.cells n K hm;replace g':=yc g g';cases g';exact absurd (show I' "cell"=.type "frame"from c) (by decide)
 .rcases x.keep K o g w q (by rw[c];decide)with z|⟨q,sl,z⟩;.exact⟨o,z,c,id⟩
  .exact⟨_,z,q,id⟩
theorem Sx.next(c:Sx F L J env A f C s)(d:Done F [] f C s zy f' zm s'):Sx F L zy env A f' zm s':=⟨c.toCx.next d,c.toFnE⟩
theorem Sx.nH(c:Sx F L J env A f C s)(d:Done F (xH env) f C s zy f' zm s')(e:yj f' zm s'.heap env zN):Sx F zN zy env A f' zm s':=⟨⟨d.rel,e,c.ak.Y_ d.ext c.en e c.func⟩,c.toFnE⟩
theorem WS.done{t:Sem Flow}(d:Done F [] f C s zt zB zD zd)(p:WS F env A t zB zD zd out):wpAny (model F.b.prog F.b.w) A t (rt F env f C s out) (tU F env f C s out) zd:=p.from d.wide
theorem E.sk{m:M}{v:V}{Q:JM->JI->Prop}(h:E F L m J (.ok v zt))(ok:yy F.b.X m zw env.scope=JQ)(c:Sx F L J env A f C s){Z:JM->JI->Prop}(k:∀w f' zm s',Done F [] f C s zt f' zm s'->VR f' zm s'.heap v w->Sx F L zt env A f' zm s'->Q w s'):wpAny (model F.b.prog F.b.w) A (eval (zW m zw) env) Q Z s:=h.k ok c.toCx λw f' zm s' d hv=>k w f' zm s' d hv (c.next d)
theorem Mj(c:Sx F L J env A f C s):rt F env f C s (.ok .next L J) .next s:=⟨rfl,f,C,Done.refl c.rel,c.en⟩
theorem kg(d:Done F [] f C s zy f' zm s')(e:yj f C s.heap env L):rt F env f C s (.ok .next L zy) .next s':=⟨rfl,f',zm,d.wide,e.ext d.ext⟩
theorem E.x{m:M}{e:V}{Q:JM->JI->Prop}(h:E F L m J (.exc e zt))(ok:yy F.b.X m zw env.scope=JQ)(c:Sx F L J env A f C s):wpAny (model F.b.prog F.b.w) A (eval (zW m zw) env) Q (tU F env f C s (.exc e L zt)) s:=JC (h.w ok c.toCx) (λzz zz x=>x.elim) λx s' p=>by obtain⟨n,a,c',fs,e1,e2,e3,f',zm,d,fn,fl⟩:=p;exact⟨n,a,c',fs,e1,e2,e3,f',zm,d.wide,c.en.ext d.ext,fn,fl⟩
theorem WX(ee:yj f C h env L):interactive env=JT:=by unfold interactive;rw[ee.kind];rfl
theorem pG{m:M}(h:qb m=JQ){t:Option Expr}{l:Nat}:swapsWith (zW m zw) t l env=pure JT:=by cases m<;>first|rfl|cases h
theorem zj:XB F L .nil J (.ok .next L J):=⟨λzz c=>JL (Mj c)⟩
theorem zr{s r:S}(h:X1 F L s J (.ok .next zN zt))(h':XB F zN r zt out):XB F L (.cons s r) J out:=by refine⟨λ{zw env A f C s}ok c=>?_⟩;obtain⟨o1,o2⟩:=zh ok;show WS F env A (execs (toS _ (sh zw 0)::uX _ (sh zw 1)) env) _ _ _ _;rewrite[WS];rw[arm_execs_cons];refine JR (JC (h.go o1 c) (λfl zd p=>?_) λzz zz x=>x.elim);obtain⟨rfl,zB,zD,d,e⟩:=p;exact(h'.go o2 (c.nH d e)).from d
theorem zT{s r:S}{v:V}(h:X1 F L s J (.ok (.ret v) zN zt)):XB F L (.cons s r) J (.ok (.ret v) zN zt):=by refine⟨λ{zw env A f C s}ok c=>?_⟩;show WS F env A (execs (toS _ (sh zw 0)::uX _ (sh zw 1)) env) _ _ _ _;rewrite[WS];rw[arm_execs_cons];refine JR (JC (h.go (zh ok).1 c) (λfl zd p=>?_) λzz zz x=>x.elim);obtain⟨w,zB,zD,rfl,r,r'⟩:=p;exact JL ⟨w,zB,zD,rfl,r,r'⟩
theorem vn{s r:S}{e:V}(h:X1 F L s J (.exc e zN zt)):XB F L (.cons s r) J (.exc e zN zt):=by refine⟨λ{zw env A f C s}ok c=>?_⟩;show WS F env A (execs (toS _ (sh zw 0)::uX _ (sh zw 1)) env) _ _ _ _;rewrite[WS];rw[arm_execs_cons];exact JR (JC (h.go (zh ok).1 c) (λzz zz x=>x.elim) λzz zz p=>p)
theorem yJ{e:M}{v:V}(h:E F L e J (.ok v zt)):X1 F L (.expr e) J (.ok .next L zt):=by refine⟨λ{zw env A f C s}ok c=>?_⟩;obtain⟨o1,o2⟩:=zh ok;exact wpAny_Expr_any (h.sk o2 c λw f' zm s' d zz zz=>kg d c.en) (WX c.en) (pG o1)
theorem rD{e:M}{v:V}(h:E F L e J (.exc v zt)):X1 F L (.expr e) J (.exc v L zt):=by refine⟨λ{zw env A f C s}ok c=>?_⟩;obtain⟨o1,o2⟩:=zh ok;exact wpAny_Expr_any (h.x o2 c) (WX c.en) (pG o1)
theorem zL{e:M}{v:V}(h:E F L e J (.ok v zt)):X1 F L (.ret e) J (.ok (.ret v) L zt):=by refine⟨λ{zw env A f C s}ok c=>?_⟩;exact wpAny_Return_some (h.sk ok c λw f' zm s' d hv zz=>⟨w,f',zm,rfl,d.wide,hv⟩)
theorem yu{x:Nat}{e:M}{v:V}(h:E F L e J (.ok v zt))(hc:qb e=JQ:=by rfl):X1 F L (.asg x e) J (.ok .next (st x v L) zt):=by refine⟨λ{zw env A f C s}ok c=>?_⟩;obtain⟨o1,o2⟩:=zh ok;obtain⟨o2,o3⟩:=zh o2;show WS F env A (exec (.Assign [.Name _ _] _ _) env) _ _ _ _;rewrite[WS];rw[exec_Assign_Name (hs:=pG hc)];refine JR (J3 (JR (h.sk o3 c λw f' zm s' d hv c'=>JR (J3 (JR (oO d.rel c'.en c.st o1 (.inl ⟨c.func,rfl⟩) hv λyq ze we=>?_))))));exact JL ⟨rfl,f',zm,d.wide.trans ze,we⟩
theorem Ue{x:Nat}{e:M}{v:V}(h:E F L e J (.exc v zt))(hc:qb e=JQ:=by rfl):X1 F L (.asg x e) J (.exc v L zt):=by refine⟨λ{zw env A f C s}ok c=>?_⟩;show WS F env A (exec (.Assign [.Name _ _] _ _) env) _ _ _ _;rewrite[WS];rw[exec_Assign_Name (hs:=pG hc)];exact JR (J3 (JR (h.x (zh (zh ok).2).2 c)))
theorem oq{c:M}{a b:S}{t:Bool}(h:E F L c J (.ok (.bool t) zt))(h':XB F L (if t then a else b) zt out):X1 F L (.cond c a b) J out:=by refine⟨λ{zw env A f C s}ok cx=>?_⟩;obtain⟨o1,o2⟩:=zh ok;obtain⟨o2,o3⟩:=zh o2;refine wpAny_If (JC (h.t o1 cx.toCx) (λt' zd p=>?_) λzz zz x=>x.elim);obtain⟨zB,zD,d,rfl⟩:=p;cases t with|true=>exact(h'.go o2 (cx.next d)).done d|false=>exact(h'.go o3 (cx.next d)).done d
theorem ye{c:M}{a b:S}(h:E F L c J (.ok (.bool JQ) zt))(h':XB F L a zt out):X1 F L (.cond c a b) J out:=oq h h'
theorem zO{c:M}{a b:S}(h:E F L c J (.ok (.bool JT) zt))(h':XB F L b zt out):X1 F L (.cond c a b) J out:=oq h h'
noncomputable def kG(F:Fr)(o:V)(x:Nat)(v:V)(J zy:St):Prop:=∀{A:Ip}{f:FM}{C:OW}{s:JI}{ov vv:JM},F.b.X.contains x=JQ->Facts F.b->Rl F.b f C J s.heap->VR f C s.heap o ov->VR f C s.heap v vv->W F A (setAttr ov (nm x) vv) (λzz zz zz(zz:Unit)(zz:Unit)=>True) f C s (.ok () zy)
noncomputable def mS(F:Fr)(o i v:V)(J zy:St):Prop:=∀{A:Ip}{f:FM}{C:OW}{s:JI}{ov iv vv:JM},Rl F.b f C J s.heap->VR f C s.heap o ov->VR f C s.heap i iv->VR f C s.heap v vv->W F A (setItem ov iv vv) (λzz zz zz(zz:Unit)(zz:Unit)=>True) f C s (.ok () zy)
theorem Ui{o e:M}{x:Nat}{ov v:V}(h:E F L e J (.ok v zt))(ho:E F L o zt (.ok ov zb))(hs:kG F ov x v zb yO):X1 F L (.zC o x e) J (.ok .next L yO):=by refine⟨λ{zw env A f C s}ok c=>?_⟩;obtain⟨o1,o2⟩:=zh ok;obtain⟨oX,oM⟩:=zh o1;obtain⟨o2,o3⟩:=zh o2;refine plainObj_wpAny_Assign_Attribute (h.sk o3 c λw f' zm s' d hv c'=>ho.sk o2 c' λwo yg yk yq ze ho jn=>?_) (by cases e<;>first|rfl|cases oM);refine JC (hs oX c.ak.ok ze.rel ho (VR.ext ze.ext _ hv)) (λzz xy p=>?_) λzz zz x=>x.elim;obtain⟨sZ,sJ,yP,_⟩:=p;exact kg ((d.trans ze).trans yP) c.en
theorem KY{o i e:M}{ov iv v:V}(h:E F L e J (.ok v zt))(ho:E F L o zt (.ok ov zb))(hi:E F L i zb (.ok iv yO))(hs:mS F ov iv v yO rA):X1 F L (.y7 o i e) J (.ok .next L rA):=by refine⟨λ{zw env A f C s}ok c=>?_⟩;obtain⟨o1,o2⟩:=zh ok;obtain⟨oM,oC⟩:=zh o1;obtain⟨o2,o3⟩:=zh o2;obtain⟨o3,o4⟩:=zh o3;refine wpAny_Assign_Subscript (h.sk o4 c λw f' zm s' d hv c'=>ho.sk o2 c' λwo yg yk yq ze ho jn=>hi.sk o3 jn λwi sZ sJ xy yP hi qw=>?_) (pG oC);refine JC (hs yP.rel (VR.ext yP.ext _ ho) hi (VR.ext yP.ext _ (VR.ext ze.ext _ hv))) (λzz sC p=>?_) λzz zz x=>x.elim;obtain⟨Qc,Mz,ui,_⟩:=p;exact kg (((d.trans ze).trans yP).trans ui) c.en
theorem KW{o e:M}{x:Nat}{ov:V}{i j:Int}(ho:E F L o J (.ok ov zt))(hg:∀{A:Ip}{f:FM}{C:OW}{s:JI}{w:JM}{expr:Bool},F.b.X.contains x=JQ->Facts F.b->Rl F.b f C zt s.heap->VR f C s.heap ov w->W F A (getAttr w (nm x) expr) rV f C s (.ok (.int i) zt))(h:E F L e zt (.ok (.int j) zb))(hs:kG F ov x (.int (i+j)) zb yO):X1 F L (.qG o x e) J (.ok .next L yO):=by refine⟨λ{zw env A f C s}ok c=>?_⟩;obtain⟨oX,o2⟩:=zh ok;obtain⟨o2,o3⟩:=zh o2;refine wpAny_AugAssign_AttributeAny (ho.sk o2 c λwo f' zm s' d ho c'=>JC (hg oX c.ak.ok d.rel ho) (λwi zd p=>?_) λzz zz x=>x.elim);obtain⟨zB,zD,zF,t,rfl⟩:=p;refine h.sk o3 (c'.next zF) λwj yg yk yq ze hj jn=>?_;obtain⟨u,rfl⟩:=hj;refine PyProof.Rows.iadd_int ?_;obtain yP:Done F [] yg yk yq zb yg yk {yq with toks:=yq.toks+1}:=Done.toks ze.rel;refine JC (hs oX c.ak.ok yP.rel (VR.ext yP.ext _ (VR.ext ze.ext _ (VR.ext zF.ext _ ho))) ⟨_,rfl⟩) (λzz sC p=>?_) λzz zz x=>x.elim;obtain⟨Qc,Mz,ui,_⟩:=p;exact kg ((((d.trans zF).trans ze).trans yP).trans ui) c.en
end
open PySem PySem.W PySem.Calls PyProof.Rows
theorem hW:∀{xs:List Nat}{vs:List V}{L L':Loc},stores xs vs L=JS L'->xs.length=vs.length|[],[],zo,zY,zH=>rfl|zo::zY,zH::ya,xk,vR,h=>congrArg (.+1) (hW (L:=_) h)|[],zo::zY,zH,ya,h|xk::vR,[],uV,uB,h=>by cases h
theorem VL:∀{xs:List Nat}{vs:List V}(L:Loc),xs.length=vs.length->∃L',stores xs vs L=JS L'|[],[],L,zo=>⟨L,rfl⟩|x::zo,v::zY,L,h=>VL (st x v L) (I1 h)
theorem hU:∀{xs:List Nat}{vs:List V}{L L':Loc},stores xs vs L=JS L'->(∀y,y∉xs->lk y L'=lk y L)/\(xs.Nodup->∀(i x:Nat)(v:V),xs[i]?=JS x->vs[i]?=JS v->lk x L'=JS v)
|[],[],L,zo,h=>by cases h;exact⟨λzz zz=>rfl,λzz zz zz zz h=>nomatch h⟩
|x::xs,v::vs,L,L',h=>by
 obtain⟨i1,i2⟩:=hU (xs:=xs) (vs:=vs) (L:=st x v L) h;refine⟨λy hy=>?_,λhn i y u hx hv=>?_⟩;.rewrite[i1 y λq=>hy (J2 _ q)];rewrite[vI];rw[if_neg λ(q:y=x)=>hy (q▸JH)]
 .cases i with|zero=>cases hx;cases hv;rewrite[i1 x (Ia.mp hn).1];rewrite[vI];rw[if_pos rfl]|succ i=>exact i2 (Ia.mp hn).2 i y u hx hv
|[],zo::zY,zH,ya,h|xk::vR,[],uV,uB,h=>by cases h
theorem LO{xs:List Nat}{vs:List V}{L L':Loc}(hn:xs.Nodup)(hs:stores xs vs L=JS L'):∃tW,stores xs.reverse vs.reverse L=JS tW/\∀y,lk y L'=lk y tW:=by
 have hl:=hW hs;obtain⟨tW,h⟩:=VL (xs:=xs.reverse) (vs:=vs.reverse) L (by rewrite[I5];rewrite[I5];rw[hl]);obtain⟨a1,a2⟩:=hU hs;obtain⟨b1,b2⟩:=hU h;refine⟨tW,h,λy=>?_⟩;by_cases q:y∈xs
 .obtain⟨i,hi,rfl⟩:=List.mem_iff_getElem.mp q;obtain hv:vs[i]?=JS (vs[i]'(hl▸hi)):=Ic _;obtain hx:xs[i]?=JS xs[i]:=Ic _;rw[a2 hn i _ _ hx hv];refine(b2 (List.pairwise_reverse.mpr (hn.imp Hk)) (xs.length-1-i) _ _ ?_ ?_).symm;.rw[Fp (by lia),show xs.length-1-(xs.length-1-i)=i by lia];exact hx
  .rw[Fp (by lia),show vs.length-1-(xs.length-1-i)=i by lia];exact hv
 .rewrite[a1 y q];rw[b1 y λz=>q (IM.mp z)]
noncomputable def AllB(M:Model)(env:Env):List Nat->List (JM->Sem Unit)->Prop|[],[]=>True|x::xs,t::ts=>(∀{A:Ip}{w:JM}{Q:Unit->JI->Prop}{E:JM->JI->Prop}{s:JI},wpAny M A (bindName env (nm x) w) Q E s->wpAny M A (t w) Q E s)/\AllB M env xs ts|zo,zY=>False
section
variable{F:Fr}{L zN L':Loc}{J zt zb yO rA mZ oY qM zy:St}{f f' zB:FM}{C zm zD:OW}{h h':Im}{s s' zd:JI}{A:Ip}{env:Env}{zw:Pi}{out:SR}{fr:List J0}{M:Model}{Z:JM->JI->Prop}
theorem g_(z:tT F.b env):∀{xs:List Nat}{ts:List (JM->Sem Unit)}{vs:List V}{ws:List JM}{L L':Loc}{s:JI}{Q:Unit->JI->Prop},AllB M env xs ts->(∀x∈xs,vq env.scope (nm x)=JQ/\rx env fr x)->stores xs vs L=JS L'->zS f C s.heap vs ws->Rl F.b f C J s.heap->yj f C s.heap env L->(∀s',Done F fr f C s J f C s'->yj f C s'.heap env L'->Q () s')->wpAny M A (assignInOrder ts ws) Q Z s|[],[],[],zo,L,zY,s,Q,zH,ya,hs,hv,r,e,hQ=>by cases hv;cases hs;exact JL (hQ s (Done.refl r) e)|x::xs,t::ts,v::vs,zo,L,L',s,Q,⟨hb,hr⟩,ho,hs,⟨w,ws,hw,h1,h2⟩,r,e,hQ=>by subst hw;show wpAny M A (holding ws (t w)>>=λzz=>assignInOrder ts ws) Q Z s;obtain⟨o1,o2⟩:=ho x JH;refine JR (JE (hb (oO r e z o1 o2 h1 λzd zF xI=>?_)));exact g_ z hr (λy hy=>ho y (J2 _ hy)) hs (zS.ext zF.ext _ h2) zF.rel xI λyq ze we=>hQ yq (zF.trans ze) we|[],zo::zY,zH,ya,xk,vR,uV,uB,h,s6,kL,gq,gp,bj,bg|bf::UZ,[],UY,UX,UW,UU,UT,US,h,UR,UQ,KJ,KI,KH,KG=>h.elim|[],[],zo::zY,zH,ya,xk,vR,uV,uB,s6,h,kL,gq,gp,bj|bg::bf,UZ::UY,[],UX,UW,UU,UT,US,UR,UQ,h,KJ,KI,KH,KG=>by cases h
theorem bG:∀(xs:List Nat)(zw:Pi),C3 (AllB M env xs ((assignEach (w7 zw xs) env).map (·.2))) ((assignEach (w7 zw xs) env).findIdx? (·.1)=none) ((assignEach (w7 zw xs) env).length=xs.length)|[],zo=>⟨trivial,rfl,rfl⟩|x::xs,zw=>by obtain⟨i1,i2,i3⟩:=bG xs (sh zw 1);refine⟨⟨fun hb=>JR (J3 hb),i1⟩,?_,congrArg (·+1) i3⟩;show List.findIdx? (·.1) ((JT,_)::assignEach (w7 (sh zw 1) xs) env)=none;rewrite[GW];rw[i2];rfl
theorem bH:∀(xs:List Nat),AllB M env xs (xs.map λx=>bindName env (nm x))|[]=>trivial|x::xs=>⟨λh=>h,bH xs⟩
theorem jM{h h':Im}(x:Heap.ExtBut h.objs.size h h'):grows h h':=λc o e=>x c o (IP (I7 e)) e
theorem zS.cR:∀{vs:List V}{ws:List JM},zS f C h vs ws->zS f C h vs.reverse ws.reverse|[],zo,e=>by cases e;rfl|v::vs,zo,⟨w,r,e,h1,h2⟩=>by subst e;rewrite[Gy];rw[Gy];exact zS.append h2.cR (zS.single h1)
theorem yj.congr{L L':Loc}(e:yj f C h env L)(q:∀y,lk y L'=lk y L):yj f C h env L':=⟨e.kind,e.glob,e.blt,e.own,e.has,let⟨m,n,a6⟩:=e.loc;⟨m,n,λx v hv hk=>a6 x v ((q x).symm.trans hv) hk⟩,e.cells,λx v hv hk=>e.cell x v ((q x).symm.trans hv) hk⟩
theorem bD{t:J0}{items:Array JM}{ep:Nat}{sl:Array (Option JM)}{xs:List Nat}{vs:List V}{k:Nat}{p:Pos}{Q:Unit->JI->Prop}{prog:Program}{w:World}(hh:A.handled=none)(z:tT F.b env)(ho:∀x∈xs,vq env.scope (nm x)=JQ/\rx env fr x)(hs:stores xs vs L=JS L')(r:Rl F.b f C J s.heap)(e:yj f C s.heap env L)(g:s.heap.get? t=JS ⟨.type "tuple",none,.seq items ep,sl⟩)(hv:zS f C s.heap vs items.toList)(hQ:∀s',Done F fr f C s J f C s'->yj f C s'.heap env L'->Q () s'):wpAny (model prog w) A (assign (.Tuple (w7 zw xs) k p) env (.ref t)) Q Z s:=by obtain⟨b1,b2,b3⟩:=bG (M:=model prog w) (env:=env) xs zw;refine wpAny_assign_Tuple hh ⟨_,g,rfl,_,rfl⟩ (by rewrite[b3];rewrite[hW hs];rewrite[<-hv.length];rw[J8]) b2 λh' hx=>?_;obtain dg:Done F fr f C s J f C {s with heap:=h'}:=Done.grow r (jM hx) rfl rfl;obtain Rd:Done F [] f C s J f C {s with heap:=h'}:=Done.grow r (jM hx) rfl rfl;exact g_ z b1 ho hs (zS.ext dg.ext _ hv) dg.rel (e.ext Rd.ext) λyq ze we=>hQ yq (dg.trans ze) we
theorem NM{a b:Nat}{q:Bool}(h:¬(a !=b||q)=JQ):a=b:=Decidable.byContradiction λn=>h (by rw[bne_iff_ne.mpr n];rfl)
theorem N2{zi:Type}(c:Prop) [Decidable c](a b:zi):ite c a b=a\/ite c a b=b:=if q:c then .inl (if_pos q)else .inr (if_neg q)
theorem WE{zi:Type}{c:Prop} [Decidable c]{b x y:zi}(h:¬c->b=x\/b=y):ite c x b=x\/ite c x b=y:=if q:c then .inl (if_pos q)else by rw[if_neg q];exact h q
theorem kr{zi:Type}{c:Prop} [Decidable c]{b x y:zi}(h:b=x\/b=y):ite c x b=x\/ite c x b=y:=WE λ_=>h
set_option tactic.hygienic true in theorem LK{xs:List Nat}{e:Mine.M}{i:Nat}{p:Pos}{rz:Pi}(hm:wB e=JQ)(hr:d6 e rz=JQ):swappedStores [.Tuple (w7 zw xs) i p] (zW e rz) env=pure none\/swappedStores [.Tuple (w7 zw xs) i p] (zW e rz) env=pure (JS (xs.map nm)):=by
 cases e<;>first|(exfalso;exact Hr hm)|exact .inl rfl|skip
 rename_i es;have hr:(xW es (sh rz 0)).all (constantsAlone 8)=JT:=(Ii _).mp hr;show swappedStores _ (.Tuple (xW es (sh rz 0)) (rz []).k (rz []).p) env=_\/swappedStores _ (.Tuple (xW es (sh rz 0)) (rz []).k (rz []).p) env=_;unfold swappedStores;dsimp only;refine kr (kr (WE λc3=>kr ?_));rw[if_neg (by rw[hr];decide)];refine .inr (congrArg (λz=>pure (JS z)) ?_);obtain all:∀(g:Expr->Option Str)(hg:∀y p,g (.Name y p)=JS y\/g (.Name y p)=none)(xs:List Nat)(zw:Pi),((w7 zw xs).filterMap g).length=(w7 zw xs).length->(w7 zw xs).filterMap g=xs.map nm:=by
  intro g hg xs;induction xs with
  |nil=>intro _ _;rfl
  |cons x xs ih=>
   intro zw hn;show GR g (.Name (nm x) (zw [0]).p::w7 (sh zw 1) xs)=_;obtain hn:(GR g (.Name (nm x) (zw [0]).p::w7 (sh zw 1) xs)).length=(w7 (sh zw 1) xs).length+1:=hn;rcases hg (nm x) (zw [0]).p with q|q;.rw[List.filterMap_cons_some q]at hn⊢;rw[ih _ (I1 hn)];rfl
   .rw[List.filterMap_cons_none q]at hn;exact absurd hn (IP (Nat.lt_succ_of_le (List.length_filterMap_le g _)))
 exact all _ (λy p=>N2 _ _ _) xs zw (NM c3)
theorem uC{xs:List Nat}{e:Mine.M}{vs:List V}(hq:F.q=JT)(h:E F L e J (.ok (.tup vs) zt))(hs:stores xs vs L=JS L')(hn:xs.Nodup:=by decide):X1 F L (.yD xs e) J (.ok .next L' zt):=by
 refine⟨λ{zw env A f C s}ok c=>?_⟩;obtain⟨o1,o2⟩:=zh ok;obtain⟨o1,hr⟩:=zh o1;obtain⟨o1,hc⟩:=zh o1;obtain⟨o1,_⟩:=zh o1;obtain hh:=c.ak.hand hq;have ho:∀x∈xs,vq env.scope (nm x)=JQ/\rx env (xH env) x:=λx hx=>⟨Iz.mp o1 x hx,.inl ⟨c.func,rfl⟩⟩;show WS F env A (exec (.Assign [.Tuple (w7 (sh (sh zw 0) 0) xs) _ (zw [0]).p] (zW e (sh zw 1)) (zw []).p) env) _ _ _ _;rewrite[WS];rw[arm_exec_Assign];refine JR (J3 ?_);rw[show swapsWithSole [.Tuple (w7 (sh (sh zw 0) 0) xs) (zw [0]).k (zw [0]).p] (zW e (sh zw 1)) (zw []).p.line env=swapsWith (zW e (sh zw 1)) (JS (.Tuple (w7 (sh (sh zw 0) 0) xs) (zw [0]).k (zw [0]).p)) (zw []).p.line env from rfl,pG hc];refine JR (JL ?_);rw[if_neg (by decide)];refine JR (h.sk o2 c λw f' zm s' d hv c'=>?_);obtain⟨t,items,ep,sl,rfl,g1,g2,g3⟩:=hv;rcases LK (zw:=sh (sh zw 0) 0) (xs:=xs) (i:=(zw [0]).k) (p:=(zw [0]).p) (env:=env) (zh hc).1 hr with z|z;.rw[z];refine JR (JL ?_);unfold assignStores;dsimp only;exact JR (bD (k:=(zw [0]).k) hh c.st ho hs d.rel c'.en g1 g3 λyq ze we=>JL ⟨rfl,f',zm,d.wide.trans ze,we⟩)
 .rw[z];refine JR (JL ?_);unfold assignStores;dsimp only;refine JR (Gq (JR ?_));rw[show(xs.map nm).length=items.size by rewrite[JN];rewrite[hW hs];rewrite[<-g3.length];rw[J8]];refine wpAny_unpackItems_tuple hh ⟨_,g1,rfl,_,rfl⟩ λh' hx=>?_;obtain dg:Done F [] f' zm s' zt f' zm {s' with heap:=h'}:=Done.grow d.rel (jM hx) rfl rfl;obtain⟨tW,sU,hl⟩:=LO hn hs;rw[show((xs.map nm).reverse.map λn=>bindName env n)=xs.reverse.map λx=>bindName env (nm x)by rewrite[<-Gp];rw[HT];rfl];exact JR (g_ c.st (bH _) (λx hx=>ho x (IM.mp hx)) sU (zS.ext dg.ext _ g3).cR dg.rel (c'.en.ext dg.ext) λyq ze we=>JL ⟨rfl,f',zm,(d.trans dg).wide.trans ze,we.congr hl⟩)
end
open PySem PySem.W PySem.Calls PyProof.Rows
section
variable{F:Fr}{L zN L':Loc}{J zt zb yO rA mZ oY qM zy:St}{f f' zB:FM}{C zm zD:OW}{h h':Im}{s s' zd:JI}{A:Ip}{env:Env}{zw:Pi}{out:SR}{fr:List J0}{M:Model}{Z:JM->JI->Prop}
theorem bE{t:JM->Sem Unit}{ts:List (JM->Sem Unit)}{x:JM}{xs:List JM}:assignInOrder (t::ts) (x::xs)=(holding xs (t x)>>=λzz=>assignInOrder ts xs):=rfl
set_option tactic.hygienic true in theorem LJ{o o' i i':Expr}{p p' q:Pos}{k:Nat}{e:Mine.M}(hm:wB e=JQ):swappedStores [.Tuple [.Subscript o i p,.Subscript o' i' p'] k q] (zW e zw) env=pure none:=by
 cases e<;>first|(exfalso;exact Hr hm)|rfl|skip
 rename_i es;show swappedStores _ (.Tuple (xW es (sh zw 0)) (zw []).k (zw []).p) env=_;exact(kr (kr (.inl rfl))).elim id id
theorem VG{o i:Mine.M}{ov iv v:V}{w:JM}{p:Pos}{Q:Unit->JI->Prop}{Z:JM->JI->Prop}{o_ UC:Pi}(c:Sx F L J env A f C s)(ho:E F L o J (.ok ov zt))(hi:E F L i zt (.ok iv zb))(hs:mS F ov iv v zb yO)(hw:VR f C s.heap v w)(o1:yy F.b.X o o_ env.scope=JQ)(o2:yy F.b.X i UC env.scope=JQ)(k:∀f' zm s',Done F [] f C s yO f' zm s'->Q () s'):wpAny (model F.b.prog F.b.w) A (assign (.Subscript (zW o o_) (zW i UC) p) env w) Q Z s:=by rw[assign_Subscript];refine JR (JE (ho.sk o1 c λwo zB zD zd zF h1 sr=>JR (JE (hi.sk o2 sr λwi yg yk yq ze h2 jn=>JR (J3 (JR (JE ?_)))))));refine JC (hs ze.rel (VR.ext ze.ext _ h1) h2 (VR.ext ze.ext _ (VR.ext zF.ext _ hw))) (λzz xy p=>?_) λzz zz x=>x.elim;obtain⟨sZ,sJ,yP,_⟩:=p;exact wpAny_release (k sZ sJ xy ((zF.trans ze).trans yP))
theorem KX{e o i o' i':Mine.M}{v v' ov iv kq lI:V}(hq:F.q=JT)(h:E F L e J (.ok (.tup [v,v']) zt))(ho:E F L o zt (.ok ov zb))(hi:E F L i zb (.ok iv yO))(hs:mS F ov iv v yO rA)(vi:E F L o' rA (.ok kq mZ))(eX:E F L i' mZ (.ok lI oY))(sU:mS F kq lI v' oY qM):X1 F L (.mO o i o' i' e) J (.ok .next L qM):=by
 refine⟨λ{zw env A f C s}ok c=>?_⟩;obtain⟨o1,ok⟩:=zh ok;obtain⟨o1,hr⟩:=zh o1;obtain⟨o1,hc⟩:=zh o1;obtain⟨k1,ok⟩:=zh ok;obtain⟨k2,ok⟩:=zh ok;obtain⟨k3,ok⟩:=zh ok;obtain⟨k4,k5⟩:=zh ok;obtain hh:=c.ak.hand hq;show WS F env A (exec (.Assign [.Tuple [.Subscript (zW o (sh (sh (sh (sh zw 0) 0) 0) 0)) (zW i (sh (sh (sh (sh zw 0) 0) 0) 1)) (zw [0,0,0]).p,.Subscript (zW o' (sh (sh (sh (sh (sh zw 0) 0) 1) 0) 0)) (zW i' (sh (sh (sh (sh (sh zw 0) 0) 1) 0) 1)) (zw [0,0,1,0]).p] (zw [0]).k (zw [0]).p] (zW e (sh zw 1)) (zw []).p) env) _ _ _ _;generalize(zw [0]).k=k;generalize(zw [0]).p=q;generalize(zw [0,0,0]).p=p;generalize(zw [0,0,1,0]).p=p';generalize(zw []).p=pos;rewrite[WS];rw[arm_exec_Assign];refine JR (J3 ?_);rw[show∀{o i o' i'},swapsWithSole [.Tuple [.Subscript o i p,.Subscript o' i' p'] k q] (zW e (sh zw 1)) pos.line env=swapsWith (zW e (sh zw 1)) (JS (.Tuple [.Subscript o i p,.Subscript o' i' p'] k q)) pos.line env from rfl,pG hc];refine JR (JL ?_);rw[if_neg (by decide)];refine JR (h.sk k5 c λw f' zm s' d hv c'=>?_);obtain⟨t,items,ep,sl,rfl,g1,g2,wx,rr,ge,hx,wy,Ly,QZ,hy,QY⟩:=hv;have YI:items.toList=[wx,wy]:=by rw[ge,QZ,show Ly=[]from QY]
 rw[LJ (zh hc).1];refine JR (JL ?_);unfold assignStores;dsimp only;refine JR ?_;show wpAny _ A (assign (.Tuple [.Subscript _ _ p,.Subscript _ _ p'] k q) env (.ref t)) _ _ s';refine wpAny_assign_Tuple hh ⟨_,g1,rfl,_,rfl⟩ (by rewrite[<-J8];rw[YI];rfl) rfl λh' Ov=>?_;obtain dg:Done F [] f' zm s' zt f' zm {s' with heap:=h'}:=Done.grow d.rel (jM Ov) rfl rfl;rw[YI];show wpAny _ A (assignInOrder [assign (.Subscript _ _ p) env,assign (.Subscript _ _ p') env] [wx,wy]) _ _ _;rw[bE];refine JR (JE (VG (c'.next dg) ho hi hs (VR.ext dg.ext _ hx) k1 k2 λyg yk yq ze=>?_));rw[bE];refine JR (JE (VG ((c'.next dg).next ze) vi eX sU (VR.ext ze.ext _ (VR.ext dg.ext _ hy)) k3 k4 λsZ sJ xy yP=>JL (JL ?_)));exact kg (((d.trans dg).trans ze).trans yP) c.en
noncomputable def bS(F:Fr)(n c:Nat)(fs:List (Nat×V))(J:St):Prop:=∀{A:Ip}{f:FM}{C:OW}{s:JI}{a:J0}{env:Env},Rl F.b f C J s.heap->xV F A C s.heap->f n=JS a->wpAny (model F.b.prog F.b.w) A (raiseStmt env (JS (pure (.ref a))) none) (λzz zz=>False) (λe s'=>C3 (e=.ref a) (Done F [] f C s (J.set n (.exc c JQ fs)) f C s') (oV F.b C s'.heap a)) s
theorem M6{env:Env}{x:Sem JM}:raiseStmt env (JS x) none=x>>=λv=>raiseStmt env (JS (pure v)) none:=by rfl
theorem KQ{e:Mine.M}{n c:Nat}{fs:List (Nat×V)}(h:E F L e J (.ok (.ref n) zt))(hn:zt[n]?=JS (.exc c JT fs))(hr:bS F n c fs zt):X1 F L (.raise e) J (.exc (.ref n) L (zt.set n (.exc c JQ fs))):=by refine⟨λ{zw env A f C s}ok cx=>?_⟩;show WS F env A (exec (.Raise (JS (zW e (sh zw 0))) none (zw []).p) env) _ _ _ _;rewrite[WS];rw[arm_exec_Raise];refine JR (J3 ?_);show wpAny _ A (raiseStmt env (JS (do let v<-eval (zW e (sh zw 0)) env;standAt (zw []).p;pure v)) none) _ _ s;rw[M6];refine JR (JR (h.sk ok cx λw f' zm s' d hv c'=>JR (J3 (JL ?_))));obtain⟨a,fa,rfl⟩:=hv;refine JC (hr (env:=env) d.rel c'.ak fa) (λzz zz x=>x.elim) λx yq hx=>?_;obtain⟨he,ze,hi⟩:=hx;exact⟨n,a,c,fs,rfl,he,II (y0 hn),f',zm,(d.trans ze).wide,cx.en.ext (d.trans ze).ext,fa,hi⟩
theorem U_{b:S}{x:Nat}{eh:Mine.M}{fl:Fl}(hb:XB F L b J (.ok fl zN zt)):X1 F L (.try b x eh) J (.ok fl zN zt):=by refine⟨λ{zw env A f C s}ok c=>?_⟩;refine wpAny_Try_except (JC (hb.go (zh (zh ok).2).1 c) (λr zd p=>?_) λzz zz x=>x.elim);cases fl with|next=>obtain⟨rfl,r⟩:=id p;exact JL p|ret v=>obtain⟨w,f',zm,rfl,r⟩:=id p;exact p
noncomputable def Fr.n_(F:Fr):Fr:={F with q:=JQ}
theorem Done.n_(d:Done F.n_ fr f C s zy f' zm s'):Done F fr f C s zy f' zm s':=⟨d.ext,d.rel,d.gens,d.os,d.uM⟩
noncomputable def bU(F:Fr)(n:Nat)(J:St):Prop:=∀{A:Ip}{f:FM}{C:OW}{s:JI}{a:J0},Facts F.b->Rl F.b f C J s.heap->f n=JS a->wpAny (model F.b.prog F.b.w) A (excMatches (.ref a) (.ref prog.su)) (λr s'=>r=JQ/\∃tk,s'={s with toks:=tk}) (λzz zz=>False) s
theorem KO{b:S}{x n:Nat}{eh:Mine.M}{v:V}(hb:XB F L b J (.exc (.ref n) zN zt))(hm:bU F n zt)(hh:E F.n_ (st x (.ref n) zN) eh zt (.ok v zb)):X1 F L (.try b x eh) J (.ok (.ret v) zN zb):=by refine⟨λ{zw env A f C s}ok c=>?_⟩;obtain⟨o1,o2⟩:=zh ok;obtain⟨hg,hl⟩:=zh o1;obtain⟨ob,oh⟩:=zh o2;obtain hl:vW env.scope (nm x)=JS .local:=eq_of_beq hl;refine wpAny_Try_except (JC (hb.go ob c) (λzz zz x=>x.elim) λe zd p=>?_);obtain⟨n',ea,cc,fs,q,rfl,wC,zB,zD,d,xI,fn,hi⟩:=p;cases q;have sr:=c.nH d xI;refine dD c.rJ d.rel sr.ak c.fr fn wC hi λyq ze kP=>jS ze.rel kP λxy yP kO=>?_;have qw:=(sr.next ze).next yP;refine wpAny_handleBy_cons (codeAny_handlers_test ?_) (by intro z;cases z);obtain⟨y,hy,gy⟩:=qw.ak.ok.su;refine fX qw.ak.ok.glob qw.rel qw.en hy hg gy λw hv=>?_;cases hv;refine JC (hm qw.ak.ok qw.rel fn) (λr xX p=>?_) λzz zz x=>x.elim;obtain⟨rfl,tk,rfl⟩:=p;simp only[if_true];refine codeAny_handlers_suite_as ?_;obtain ui:Done F [] zB zD xy zt zB zD {xy with toks:=tk}:=Done.toks yP.rel;refine jS (s:={xy with toks:=tk}) ui.rel kO λvS v5 JX=>?_;have qC:=(qw.next ui).next v5;refine cC v5.rel qC.en c.st (by unfold vq pP;rw[hl];rfl) (.inl ⟨c.func,rfl⟩) (v:=.ref n) ⟨ea,fn,rfl⟩ λtZ pk fT=>?_;have qB:=qC.nH pk fT;obtain cx:Cx F.n_ (st x (.ref n) zN) zt env (A.mark (JS (.ref ea))) zB zD tZ:=⟨pk.rel,fT,⟨qB.ak.depth,qB.ak.units,qB.ak.nG,qB.ak.ok,(λq=>Hr q),qB.ak.frames⟩⟩;rw[arm_execs_cons];refine JR (wpAny_Return_some (JC (hh.w oh cx) (λv' J_ p=>?_) λzz zz x=>x.elim));obtain⟨Qb,My,u1,hv⟩:=p;have u1:=u1.n_;obtain RD:=fT.ext u1.ext;refine JL ?_;dsimp only;refine Kr u1.rel RD c.st hl λJZ Yx=>⟨v',Qb,My,rfl,?_,VR.ext Yx.ext _ hv⟩;exact(((((d.trans ze.wide).trans yP.wide).trans ui.wide).trans v5.wide).trans (pk.trans u1.wide)).trans (Yx.mono λc hc=>by rw[JP.mp hc];exact JH)
theorem Nu{x:JM}(c:Sx F L J env A f C s)(p:tU F env f C s out x s'):notedBy (model F.b.prog F.b.w) A env (λx s'=>cameBackBy (model F.b.prog F.b.w) A env (tU F env f C s out) x s') x s':=by cases out with|ok=>exact p.elim|exc e L' zy=>obtain⟨n,ea,cc,fs,rfl,rfl,wC,zB,zD,d,xI,fn,hi⟩:=p;unfold notedBy;refine dD c.rJ d.rel (c.nH d xI).ak c.fr fn wC hi λyq ze kP=>Rx ze.rel kP λxy yP kO=>?_;exact⟨n,ea,cc,fs,rfl,rfl,wC,zB,zD,(d.trans ze.wide).trans yP.wide,(xI.ext ze.ext).ext yP.ext,fn,kO.YR⟩
inductive WL(F:Fr)(c:Mine.M)(b:S):Nat->Loc->St->SR->Prop|stop{L J zt n}:E F L c J (.ok (.bool false) zt)->WL F c b (n+1) L J (.ok .next L zt)|turn{L zN J zt zb n out}:E F L c J (.ok (.bool true) zt)->XB F L b zt (.ok .next zN zb)->WL F c b n zN zb out->WL F c b (n+1) L J out|ret{L zN J zt zb n v}:E F L c J (.ok (.bool true) zt)->XB F L b zt (.ok (.ret v) zN zb)->WL F c b (n+1) L J (.ok (.ret v) zN zb)
theorem oj{c:Mine.M}{b:S}{n:Nat}(hw:WL F c b n L J out):X1 F L (.while c b) J out:=by refine⟨λ{zw env A f C s}ok cx=>?_⟩;obtain⟨oc,ob⟩:=zh ok;refine wpAny_While (codeAny_whileLoop (I:=λn s'=>X4 λL' zy f' zm=>C3 (Done F (xH env) f C s zy f' zm s') (yj f' zm s'.heap env L') (WL F c b n L' zy out)) ?_ n ⟨L,J,f,C,Done.refl cx.rel,cx.en,hw⟩);intro n zd⟨zN,zt,zB,zD,zF,xI,s8⟩;have sr:=cx.nH zF xI;cases s8 with|stop h=>refine JC (h.t oc sr.toCx) (λt yq p=>?_) λzz zz x=>x.elim;obtain⟨yg,yk,ze,rfl⟩:=p;exact JL ⟨rfl,yg,yk,zF.trans ze.wide,xI.ext ze.ext⟩|turn h hb hr=>refine JC (h.t oc sr.toCx) (λt yq p=>?_) λzz zz x=>x.elim;obtain⟨yg,yk,ze,rfl⟩:=p;simp only[if_true];refine JC (hb.go ob (sr.next ze)) (λr xy p=>?_) λzz zz x=>x.elim;obtain⟨rfl,sZ,sJ,yP,fV⟩:=p;exact⟨_,Hq _,_,_,sZ,sJ,(zF.trans ze.wide).trans yP,fV,hr⟩|ret h hb=>refine JC (h.t oc sr.toCx) (λt yq p=>?_) λzz zz x=>x.elim;obtain⟨yg,yk,ze,rfl⟩:=p;simp only[if_true];refine JC (hb.go ob (sr.next ze)) (λr xy p=>?_) λzz zz x=>x.elim;obtain⟨w,sZ,sJ,rfl,yP,hv⟩:=p;exact⟨w,sZ,sJ,rfl,(zF.trans ze.wide).trans yP,hv⟩
end
open PySem PySem.W PySem.Calls PyProof.Rows
noncomputable def y3(wr:List J0)(h h':Im):Prop:=∀c o,c∉wr->h.get? c=JS o->h'.get? c=JS o
theorem y3.but{a:J0}{h h':Im}(x:Heap.ExtBut a h h'):y3 [a] h h':=λc o n e=>x c o (λq=>n (q▸JP.mpr rfl)) e
theorem y3.mono{wr Ul:List J0}{h h':Im}(x:y3 wr h h')(hs:∀c∈wr,c∈Ul):y3 Ul h h':=λc o n e=>x c o (λq=>n (hs c q)) e
noncomputable def rL:List JM:=[.type "tuple",.type "frame",.type "dict",.type "cell",.type "list",.type "traceback"]
structure Wr(F:Fr)(yR:JI)(C:OW)(h:Im)(wr:List J0):Prop where
 new:∀c∈wr,yR.heap.get? c=none
 own:∀c∈wr,C c=none
 base:∀c∈wr,F.b.B.get? c=none
 cls:∀c∈wr,∃o,h.get? c=some o/\o.cls∉rL
section
variable{F:Fr}{fr wr:List J0}{f f':FM}{C zm:OW}{h h':Im}{yR s s':JI}{J zy:St}{A:Ip}{env:Env}{L:Loc}
theorem Wr.not(w:Wr F yR C h wr){c:J0}{o:Obj}(e:h.get? c=JS o)(hc:o.cls∈rL):c∉wr:=λq=>by obtain⟨p,hp,hT⟩:=w.cls c q;replace hp:=yc e hp;cases hp;exact hT hc
theorem Wr.yn(w:Wr F yR C h wr)(x:y3 wr h h'):vm f C h f C h':=⟨λzz zz e=>e,λc⟨i,ep,sl,e⟩n=>⟨(x c _ (w.not e JH) e).trans e.symm,n⟩⟩
structure oU(F:Fr)(yR:JI)(C:OW)(h:Im)(wr:List J0):Prop where
 new:∀c∈wr,yR.heap.get? c=none
 own:∀c∈wr,C c=none
 base:∀c∈wr,F.b.B.get? c=none
 uw:∀c∈wr,¬isTup (h.get? c)
theorem Wr.w0(w:Wr F yR C h wr):oU F yR C h wr:=⟨w.new,w.own,w.base,λc hc⟨zo,zY,zH,e⟩=>w.not e JH hc⟩
theorem oU.yn(w:oU F yR C h wr)(x:y3 wr h h'):vm f C h f C h':=⟨λzz zz e=>e,λc e n=>⟨let⟨_,_,_,q⟩:=e;(x c _ (λz=>w.uw c z e) q).trans q.symm,n⟩⟩
theorem Done.c9(d:Done F fr f C yR zy f' zm s)(w:oU F yR zm s.heap wr)(x:y3 wr s.heap h'){tk:Nat}:Done F fr f C yR zy f' zm {s with heap:=h',toks:=tk}:=by
 have nw:∀{c o},yR.heap.get? c=JS o->c∉wr:=λe q=>by rw[w.new _ q]at e;cases e
 obtain no:∀{c n},zm c=JS n->c∉wr:=λe q=>by rw[w.own _ q]at e;cases e
 refine⟨⟨d.ext.wG,d.ext.xO,d.ext.nD,λc o e=>?_,λc o e n q t=>?_,λc e n=>?_⟩,d.rel.rJ (w.yn x) (λc o e=>?_) λn c o e z=>x c o (no z) e,d.gens,d.os,λq c n o z e=>x c o (nw e) (d.uM q c n o z e)⟩;.obtain⟨o',vi⟩:=d.ext.live c o e;exact⟨o',x c o' (nw e) vi⟩
 .exact(d.ext.keep c o e n q t).imp (x c o (nw e)) λz=>⟨z.1,z.2.imp λsl z=>x c _ (nw e) z⟩
 .obtain⟨i,ep,sl,q⟩:=id e;exact(x c _ (nw q) ((d.ext.tup c e n).trans q)).trans q.symm
 .exact x c o (λq=>by rw[w.base c q]at e;cases e) (d.rel.base c o e)
theorem Done.rH(d:Done F fr f C yR zy f' zm s)(w:Wr F yR zm s.heap wr)(x:y3 wr s.heap h'){tk:Nat}:Done F fr f C yR zy f' zm {s with heap:=h',toks:=tk}:=d.c9 w.w0 x
theorem Wr.frame(w:Wr F yR C h wr)(e:yj f C h env L):∀c,c∈xH env->c∉wr:=λc hc=>by
 rcases jQ hc with rfl|⟨n,hm⟩;.obtain⟨m,⟨o,es,ep,a1,a2,_⟩,_⟩:=e.loc;refine w.not a1 ?_;rw[a2];unfold sb;split<;>decide
 .obtain⟨_,u,g⟩:=e.cells n c hm;exact w.not g (show I' "cell"∈rL by decide)
theorem yj.keep(e:yj f C h env L)(v:vm f C h f C h')(k:∀c o,c∈xH env->h.get? c=JS o->h'.get? c=JS o):yj f C h' env L:=by
 obtain⟨m,⟨o,es,ep,a1,a2,a3,a4,a5⟩,a6⟩:=e.loc;refine⟨e.kind,e.glob,e.blt,e.own,e.has,⟨m,⟨o,es,ep,k _ _ JH a1,a2,a3,a4,a5⟩,λx u hu hk=>?_⟩,λn c hn=>?_,λx u hu hk=>?_⟩;.obtain⟨w,c1,c2⟩:=a6 x u hu hk;exact⟨w,c1,VR.yn v _ c2⟩
 .obtain⟨c1,u,c2⟩:=e.cells n c hn;exact⟨c1,u,k _ _ (dO hn) c2⟩
 .obtain⟨c,w,c1,c2,c4⟩:=e.cell x u hu hk;exact⟨c,w,c1,k _ _ (dO (mem_of_lookup c1)) c2,VR.yn v _ c4⟩
theorem yj.rH(e:yj f C h env L)(w:Wr F yR C h wr)(x:y3 wr h h'):yj f C h' env L:=e.keep (w.yn x) λc o hc ho=>x c o (w.frame e c hc) ho
theorem nT(w:Wr F yR C h wr)(x:Ext fr f C h f' zm h')(hf:∀c∈wr,c∉fr):∀c∈wr,∀o,h.get? c=JS o->h'.get? c=JS o:=λc hc o ho=>by obtain⟨p,hp,hT⟩:=w.cls c hc;rw[hp]at ho;cases ho;exact(x.keep c p hp (w.own c hc) (hf c hc) λq=>hT (q▸by decide)).elim id λz=>absurd (z.1▸by decide) hT
theorem iR(w:Wr F yR C h wr)(x:Ext fr f C h f' zm h'):∀c∈wr,zm c=none:=λc hc=>let⟨p,hp,_⟩:=w.cls c hc;x.own hp (w.own c hc)
theorem ZF{prog:Program}{w:World}:∀{es:List (List Nat×V)}{ws:List Ig},DR w.params f C h es ws→∃kvs:List (Str×JM),C3 (Pairs (strKind prog w) ws kvs) (kvs.map (·.1)=es.map (fun p=>tx p.1)) (zS f C h (es.map (·.2)) (kvs.map (·.2)))|[],zo,e=>by cases e;exact⟨[],.nil,rfl,rfl⟩|(k,v)::es,zo,⟨t,wv,r,e,h1,h2⟩=>by subst e;obtain⟨kvs,i1,i2,i3⟩:=ZF (prog:=prog) h2;exact⟨(tx k,wv)::kvs,.cons (strKind_is prog w (tx k) t) rfl i1,by rewrite[It];rw[i2];rfl,wv,kvs.map (·.2),rfl,h1,i3⟩
theorem Kt{es:List (List Nat×V)}(h:(es.map (·.1)).Nodup):(es.map (fun p=>tx p.1)).Nodup:=by rw[show(es.map (fun p=>tx p.1))=(es.map (·.1)).map tx by rw[HT];rfl];exact List.Pairwise.map tx (fun a c n q=>n (mj q)) h
theorem qu{b:Bc}{es:List (List Nat×V)}{ents:Array Ig}{ep:Nat}{a:J0}(dr:DR b.w.params f C h es ents.toList)(nd:(es.map (·.1)).Nodup)(g:h.get? a=JS (xu ents ep)):∃kvs:List (Str×JM),C5 (h.DictAt (strKind b.prog b.w) a kvs ep) (kvs.map (·.1)=es.map (fun p=>tx p.1)) (zS f C h (es.map (·.2)) (kvs.map (·.2))) (kvs.length=es.length) (kvs.length=ents.size):=by
 obtain⟨kvs,i1,i2,i3⟩:=ZF (prog:=b.prog) dr;refine⟨kvs,⟨_,ents,g,⟨rfl,rfl,rfl⟩,rfl,fun e he=>DR.keys dr e (Ie.mpr he),i1,by rw[i2];exact Kt nd⟩,i2,i3,?_,?_⟩;·simpa using congrArg H6 i2
 ·obtain this:=i1.length;simpa using this.symm
theorem ZD{es:List (List Nat×V)}{kvs:List (Str×JM)}{i:Nat}{e:List Nat×V}(k1:kvs.map (·.1)=es.map (fun p=>tx p.1))(k2:zS f C h (es.map (·.2)) (kvs.map (·.2)))(he:es[i]?=JS e):∃kw,kvs[i]?=JS (tx e.1,kw)∧VR f C h e.2 kw:=by
 obtain hk:(kvs.map (·.1))[i]?=JS (tx e.1):=by rewrite[k1];rewrite[JF];rw[he];rfl
 obtain⟨vw,qi,hv⟩:=k2.get (i:=i) (v:=e.2) (by rewrite[JF];rw[he];rfl);rw[JF]at hk qi;obtain⟨kv,q,h1⟩:=JB.mp hk;rw[q]at qi;cases qi;exact⟨kv.2,by rewrite[q];rw[←h1],hv⟩
inductive IT where|tup(l:List V)|str(s:List Nat)|list(n:Nat)|dict(n:Nat)|range(m:Int)|enum(n:Nat)|items(n:Nat)
noncomputable def IT.k:IT->IK|.range zo=>.range|.enum _=>.enum|.items _=>.items|_=>.plain
noncomputable def IT.v:IT->V|.tup l=>.tup l|.str s=>.str s|.list n|.dict n|.enum n|.items n=>.ref n|.range m=>.int m
noncomputable def IT.d:IT->Bool|.dict zo|.items zY=>JQ|_=>JT
noncomputable def IT.is(l:List V)(J:St):IT->Prop|.tup vs=>l=vs|.str s=>l=s.map λc=>V.str [c]|.list n=>J[n]?=JS (.list l)|.dict n=>∃es,J[n]?=JS (.dict es)/\l=es.map λp=>.str p.1|.range m=>small m=JQ/\l=(IF m.toNat).map λ(j:Nat)=>V.int (j:Int)|.enum n=>∃xs,J[n]?=JS (.list xs)/\l=xs.mapIdx λi v=>V.tup [.int i,v]|.items n=>∃es,J[n]?=JS (.dict es)/\l=es.map λp=>V.tup [.str p.1,p.2]
noncomputable def y8(f:FM)(C:OW)(h:Im)(wr:List J0)(I:J0)(i:Nat):IT->Prop|.tup vs=>X4 λt items ep sl=>C5 (h.get? t=JS ⟨.type "tuple",none,.seq items ep,sl⟩) (C t=none) (zS f C h vs items.toList) (wr=[I]) (h.IsTupleIter I t i)|.str s=>wr=[I]/\X2 λt T=>(T="str_ascii_iterator"\/T="str_iterator")/\h.IsStrIter I T (tx s) t i|.list n=>∃a,C3 (f n=JS a) (wr=[I]) (h.IsListIter I a i)|.dict n=>X3 λa ents ep=>C5 (f n=JS a) (wr=[I]) (h.get? a=JS (xu ents ep)) (C a=JS n) (h.IsKeyIter I a i ents.size ep)|.range m=>wr=[I]/\IsRangeIter h I i ((m.toNat:Int)-i) 1|.enum n=>X3 λa T old=>C5 (f n=JS a) (wr=[I,T]) (I≠T) (IsEnum h I T i old) (h.IsListIter T a i)|.items n=>X5 λa ents ep ok ov=>C5 (f n=JS a) (wr=[I]) (h.get? a=JS (xu ents ep)) (C a=JS n) (IsItemIter h I a i ents.size ep ok ov)
theorem y8.keep{t:IT}{I:J0}{i:Nat}(x:vm f C h f' zm h')(xO:∀c n,C c=JS n->zm c=JS n)(kw:∀c∈wr,∀o,h.get? c=JS o->h'.get? c=JS o)(kd:t.d=JQ->∀c n ents ep,C c=JS n->h.get? c=JS (xu ents ep)->h'.get? c=JS (xu ents ep))(st:y8 f C h wr I i t):y8 f' zm h' wr I i t:=by cases t with|tup vs=>obtain⟨tt,items,ep,sl,g1,g2,g3,rfl,o,ho,r⟩:=st;obtain⟨q1,q2⟩:=x.tup tt ⟨items,ep,sl,g1⟩ g2;exact⟨tt,items,ep,sl,q1.trans g1,q2,zS.yn x _ g3,rfl,o,kw I JH o ho,r⟩|str ss=>obtain⟨rfl,tk,T,hT,o,ho,r⟩:=st;exact⟨rfl,tk,T,hT,o,kw I JH o ho,r⟩|list n=>obtain⟨a,fa,rfl,o,ho,r⟩:=st;exact⟨a,x.wG n a fa,rfl,o,kw I JH o ho,r⟩|dict n=>obtain⟨a,ents,ep,fa,rfl,g1,wa,o,ho,r⟩:=st;exact⟨a,ents,ep,x.wG n a fa,rfl,kd rfl a n _ _ wa g1,xO _ _ wa,o,kw I JH o ho,r⟩|range m=>obtain⟨rfl,hit⟩:=st;exact⟨rfl,kw I JH _ hit⟩|enum n=>obtain⟨a,T,old,fa,rfl,wU,he,o,ho,r⟩:=st;exact⟨a,T,old,x.wG n a fa,rfl,wU,kw I JH _ he,o,kw T (J2 _ JH) o ho,r⟩|items n=>obtain⟨a,ents,ep,ok,ov,fa,rfl,g1,wa,hit⟩:=st;exact⟨a,ents,ep,ok,ov,x.wG n a fa,rfl,kd rfl a n _ _ wa g1,xO _ _ wa,kw I JH _ hit⟩
theorem y8.cls{t:IT}{I:J0}{i:Nat}(st:y8 f C h wr I i t):∀c∈wr,∃o,h.get? c=JS o/\o.cls∉rL:=by
 cases t with
 |tup vs=>obtain⟨tt,items,ep,sl,g1,g2,g3,rfl,o,ho,r,_⟩:=st;intro c hc;rw[JP.mp hc];exact⟨o,ho,by rw[r];decide⟩
 |str ss=>obtain⟨rfl,tk,T,hT,o,ho,r,_⟩:=st;intro c hc;rw[JP.mp hc];exact⟨o,ho,by rw[r];rcases hT with rfl|rfl<;>decide⟩
 |list n=>obtain⟨a,fa,rfl,o,ho,r,_⟩:=st;intro c hc;rw[JP.mp hc];exact⟨o,ho,by rw[r];decide⟩
 |dict n=>obtain⟨a,ents,ep,fa,rfl,g1,wa,o,ho,r,_⟩:=st;intro c hc;rw[JP.mp hc];exact⟨o,ho,by rw[r];decide⟩
 |range m=>obtain⟨rfl,hit⟩:=st;intro c hc;rw[JP.mp hc];exact⟨_,hit,(show I' "range_iterator"∉rL by decide)⟩
 |enum n=>
  obtain⟨a,T,old,fa,rfl,wU,he,o,ho,r,_⟩:=st;intro c hc;rcases JJ.mp hc with q|q;.rw[q];exact⟨_,he,(show I' "enumerate"∉rL by decide)⟩
  .rw[JP.mp q];exact⟨o,ho,by rw[r];decide⟩
 |items n=>obtain⟨a,ents,ep,ok,ov,fa,rfl,g1,wa,hit⟩:=st;intro c hc;rw[JP.mp hc];exact⟨_,hit,(show I' "dict_itemiterator"∉rL by decide)⟩
theorem Wr.again{t:IT}{I:J0}{i:Nat}(w:Wr F yR C h wr)(st:y8 f' zm h' wr I i t)(x:∀c∈wr,zm c=none):Wr F yR zm h' wr:=⟨w.new,x,w.base,st.cls⟩
end
open PySem PySem.W PySem.Calls PyProof.Rows
section
variable{F:Fr}{fr wr:List J0}{f f':FM}{C zm:OW}{h h':Im}{yR s s':JI}{J zy:St}{A:Ip}{env:Env}{L:Loc}{zw:Pi}{xs:List Nat}{Z Z':JM->JI->Prop}
noncomputable def noOwn(T:String):Prop:=["enumerate","zip","dict_itemiterator","dict_reverseitemiterator","odict_iterator","itertools.zip_longest","itertools.pairwise"].contains T=JT
theorem lD{M:Model}{I:J0}{w:JM}{o:Obj}{T:String}{vs:Array JM}{Q:Unit->JI->Prop}(ho:s.heap.get? I=JS o)(hc:o.cls=.type T)(hd:o.data=.fields vs)(hn:noOwn T)(hQ:Q () s):wpAny M A (letOwnedTupleGo (toT zw xs) (.ref I) w) Q Z s:=by
 match xs with
 |[x]=>exact JL hQ
 |[]|zo::zY::zH=>
  unfold letOwnedTupleGo;cases w<;>first|exact JL hQ|skip
  refine JR (wpAny_load ho ?_);rewrite[hc];rw[hd];dsimp only;rw[if_neg (by rw[show["enumerate","zip","dict_itemiterator","dict_reverseitemiterator","odict_iterator","itertools.zip_longest","itertools.pairwise"].contains T=JT from hn];simp)];exact JL hQ
theorem V9{sc:Scope}{k:IK}(h:rP sc k xs=JQ)(hk:Ho k.ctorIdx 1=JT):toT zw xs=.Tuple (w7 (sh zw 0) xs) (zw []).k (zw []).p:=by obtain h:=(zh h).2;rw[hk,GS,Bool.or_false]at h;match xs,h with|zo::zY::zH,ya=>rfl
noncomputable def rq(M:Model)(A:Ip)(f:FM)(C:OW)(s:JI)(wr:List J0)(I:J0)(i:Nat)(t:IT)(x:V)(tg:Expr)(Z:JM->JI->Prop)(c:Option JM)(zd:JI):Prop:=∃w,c=JS w/\wpAny M A (letOwnedTupleGo tg (.ref I) w) (λzz yq=>X2 λh' tk=>C4 (yq={s with heap:=h',toks:=tk}) (y3 wr s.heap h') (y8 f C h' wr I (i+1) t) (VR f C h' x w)) Z zd
theorem xf{n:Nat}{xs:List V}{a:J0}{h:Im}(r:Rl F.b f C J h)(fa:f n=JS a)(hn:J[n]?=JS (.list xs)):C a=JS n/\X2 λitems ep=>h.get? a=JS ⟨.type "list",none,.seq items ep,#[]⟩/\zS f C h xs items.toList:=by obtain⟨a',yt,w,R⟩:=r.objs n _ hn;replace yt:=yc fa yt;cases yt;exact⟨w,R⟩
theorem Kw{vs:List V}{I:J0}{i:Nat}{x:V}(w:Wr F yR C s.heap wr)(st:y8 f C s.heap wr I i (.tup vs))(hx:vs[i]?=JS x):wpAny (model F.b.prog F.b.w) A (pyNext (.ref I)) (rq (model F.b.prog F.b.w) A f C s wr I i (.tup vs) x (toT zw xs) Z) Z' s:=by obtain⟨tt,items,ep,sl,g1,g2,g3,rfl,hit⟩:=st;obtain⟨xw,lN,hv⟩:=g3.get hx;refine wpAny_pyNext_tuple_item hit ⟨_,g1,rfl,_,rfl⟩ (x:=xw) (by rw[<-Iu];exact lN) λh' w3 hs=>⟨xw,rfl,?_⟩;obtain tc:y3 [I] s.heap h':=y3.but hs.extBut;obtain vx:=w.yn (f:=f) tc;obtain⟨o,ho,hc,p_⟩:=id w3;exact lD ho hc p_ (by unfold noOwn;decide) ⟨h',s.toks,rfl,tc,⟨tt,items,ep,sl,(vx.tup tt ⟨_,_,_,g1⟩ g2).1.trans g1,g2,zS.yn vx _ g3,rfl,w3⟩,VR.yn vx _ hv⟩
theorem Kx{ss:List Nat}{I:J0}{i:Nat}{x:V}(w:Wr F yR C s.heap wr)(st:y8 f C s.heap wr I i (.str ss))(hx:(ss.map λc=>V.str [c])[i]?=JS x):wpAny (model F.b.prog F.b.w) A (pyNext (.ref I)) (rq (model F.b.prog F.b.w) A f C s wr I i (.str ss) x (toT zw xs) Z) Z' s:=by
 obtain⟨rfl,tk,T,hT,hit⟩:=st;rw[JF]at hx;obtain⟨c,hc,rfl⟩:=JB.mp hx;obtain lr:(tx ss).cps[i]?=JS c:=by unfold tx;rw[<-Iu];exact hc
 obtain fin:noOwn T->∀h',h'.IsStrIter I T (tx ss) tk (i+1)->IC I s.heap h'->rq (model F.b.prog F.b.w) A f C s [I] I i (.str ss) (.str [c]) (toT zw xs) Z (JS (.str ⟨#[c]⟩ s.toks)) {s with heap:=h',toks:=s.toks+1}:=by intro hn h' w3 hs;obtain⟨o,ho,wM,p_⟩:=id w3;exact⟨_,rfl,lD ho wM p_ hn ⟨h',_,rfl,y3.but hs.extBut,⟨rfl,tk,T,hT,w3⟩,_,rfl⟩⟩
 rcases id hT with rfl|rfl;.exact wpAny_pyNext_ascii_item hit lr (fin (by unfold noOwn;decide))
 .exact wpAny_pyNext_wide_item hit lr (fin (by unfold noOwn;decide))
theorem Kz{n:Nat}{l:List V}{I:J0}{i:Nat}{x:V}(r:Rl F.b f C J s.heap)(w:Wr F yR C s.heap wr)(st:y8 f C s.heap wr I i (.list n))(hl:J[n]?=JS (.list l))(hx:l[i]?=JS x):wpAny (model F.b.prog F.b.w) A (pyNext (.ref I)) (rq (model F.b.prog F.b.w) A f C s wr I i (.list n) x (toT zw xs) Z) Z' s:=by obtain⟨a,fa,rfl,hit⟩:=st;obtain⟨w1,items,ep,g1,g2⟩:=xf r fa hl;obtain⟨xw,lN,hv⟩:=g2.get hx;refine wpAny_pyNext_list_item hit ⟨_,g1,rfl,_,rfl⟩ (x:=xw) (by rw[<-Iu];exact lN) λh' w3 hs=>⟨xw,rfl,?_⟩;obtain tc:y3 [I] s.heap h':=y3.but hs.extBut;obtain⟨o,ho,wM,p_⟩:=id w3;exact lD ho wM p_ (by unfold noOwn;decide) ⟨h',s.toks,rfl,tc,⟨a,fa,rfl,w3⟩,VR.yn (w.yn tc) _ hv⟩
theorem L7{n:Nat}{es:List (List Nat×V)}{I:J0}{i:Nat}{x:V}(r:Rl F.b f C J s.heap)(w:Wr F yR C s.heap wr)(st:y8 f C s.heap wr I i (.dict n))(hl:J[n]?=JS (.dict es))(hx:(es.map λp=>V.str p.1)[i]?=JS x):wpAny (model F.b.prog F.b.w) A (pyNext (.ref I)) (rq (model F.b.prog F.b.w) A f C s wr I i (.dict n) x (toT zw xs) Z) Z' s:=by obtain⟨a,ents,ep,fa,rfl,g1,wa,hit⟩:=st;obtain⟨w1,wV,yW,tw,dr,nd⟩:=vk r fa hl;obtain⟨rfl,rfl⟩:=jj (g1.symm.trans tw);obtain⟨kvs,hm,k1,k2,k3,k4⟩:=qu dr nd g1;rw[JF]at hx;obtain⟨e,he,rfl⟩:=JB.mp hx;obtain⟨kw,eU,_⟩:=ZD k1 k2 he;rw[<-k4]at hit;refine wpAny_pyNext_dict_item hit hm eU λkey h' eV w3 hs=>⟨key,rfl,?_⟩;obtain tc:y3 [I] s.heap h':=y3.but hs.extBut;obtain⟨o,ho,wM,p_⟩:=id w3;obtain⟨tk,rfl⟩:=HH eV;exact lD ho wM p_ (by unfold noOwn;decide) ⟨h',s.toks,rfl,tc,⟨a,ents,ep,fa,rfl,tc a _ (w.not g1 (show I' "dict"∈rL by decide)) g1,wa,k4▸w3⟩,tk,rfl⟩
theorem Ky{m:Int}{I:J0}{i:Nat}{x:V}(w:Wr F yR C s.heap wr)(st:y8 f C s.heap wr I i (.range m))(hx:((IF m.toNat).map λ(j:Nat)=>V.int (j:Int))[i]?=JS x):wpAny (model F.b.prog F.b.w) A (pyNext (.ref I)) (rq (model F.b.prog F.b.w) A f C s wr I i (.range m) x (toT zw xs) Z) Z' s:=by obtain⟨rfl,hit⟩:=st;rw[JF]at hx;obtain⟨j,hj,rfl⟩:=JB.mp hx;obtain⟨yN,rfl⟩:=J9.mp hj;rw[Hc]at yN;rw[F8];refine wpAny_pyNext_range_item hit (by lia) λh' w3 hs=>⟨_,rfl,?_⟩;rw[show((m.toNat:Int)-i-1)=(m.toNat:Int)-((i+1:Nat):Int)by lia,show(i:Int)+1=((i+1:Nat):Int)by lia]at w3;exact lD w3 rfl rfl (by unfold noOwn;decide) ⟨h',_,rfl,y3.but hs.extBut,⟨rfl,w3⟩,_,rfl⟩
theorem L6{n:Nat}{l:List V}{I:J0}{i:Nat}{y:V}{sc:Scope}(r:Rl F.b f C J s.heap)(w:Wr F yR C s.heap wr)(st:y8 f C s.heap wr I i (.enum n))(hl:J[n]?=JS (.list l))(hy:l[i]?=JS y)(ht:rP sc .enum xs=JQ):wpAny (model F.b.prog F.b.w) A (pyNext (.ref I)) (rq (model F.b.prog F.b.w) A f C s wr I i (.enum n) (.tup [.int i,y]) (toT zw xs) Z) Z' s:=by obtain⟨a,T,old,fa,rfl,wU,he,hit⟩:=st;obtain⟨w1,items,ep,g1,g2⟩:=xf r fa hl;obtain⟨xw,lN,hv⟩:=g2.get hy;refine wpAny_pyNext_enum_item he hit ⟨_,g1,rfl,_,rfl⟩ (x:=xw) (by rw[<-Iu];exact lN) wU λh' jL w3 eI Oq wh=>⟨_,rfl,?_⟩;rw[V9 ht rfl];refine wpAny_letOwnedTupleGo_enum (s:={s with heap:=h',toks:=s.toks+1}) jL λxP pZ vz=>?_;obtain tc:y3 [I,T] s.heap xP:=λc o q e=>vz.extBut c o (λz=>q (z▸JH)) (wh c o (λz=>q (z▸JH)) (λz=>q (z▸J2 _ JH)) e);rw[show(i:Int)+1=((i+1:Nat):Int)by lia]at pZ;exact⟨xP,_,rfl,tc,⟨a,T,_,fa,rfl,wU,pZ,w3.extBut vz.extBut (Hk wU)⟩,_,_,_,_,rfl,vz.extBut _ _ (G_ (I7 he)) eI,(ta r (JK _)).1,_,_,rfl,⟨_,rfl⟩,_,_,rfl,VR.yn (w.yn tc) _ hv,rfl⟩
theorem L5{n:Nat}{es:List (List Nat×V)}{e:List Nat×V}{I:J0}{i:Nat}{sc:Scope}(r:Rl F.b f C J s.heap)(w:Wr F yR C s.heap wr)(st:y8 f C s.heap wr I i (.items n))(hl:J[n]?=JS (.dict es))(he:es[i]?=JS e)(ht:rP sc .items xs=JQ):wpAny (model F.b.prog F.b.w) A (pyNext (.ref I)) (rq (model F.b.prog F.b.w) A f C s wr I i (.items n) (.tup [.str e.1,e.2]) (toT zw xs) Z) Z' s:=by obtain⟨a,ents,ep,ok,ov,fa,rfl,g1,wa,hit⟩:=st;obtain⟨w1,wV,yW,tw,dr,nd⟩:=vk r fa hl;obtain⟨rfl,rfl⟩:=jj (g1.symm.trans tw);obtain⟨kvs,hm,k1,k2,k3,k4⟩:=qu dr nd g1;obtain⟨kw,eU,hv⟩:=ZD k1 k2 he;rw[<-k4]at hit;refine wpAny_pyNext_items_item hit hm eU λkey h' eV w3 eI Oq wh=>⟨_,rfl,?_⟩;rw[V9 ht rfl];refine wpAny_letOwnedTupleGo_items (s:={s with heap:=h'}) w3 λxP pZ vz=>?_;obtain tc:y3 [I] s.heap xP:=λc o q e=>vz.extBut c o (λz=>q (z▸JH)) (wh c o (λz=>q (z▸JH)) e);obtain⟨tk,rfl⟩:=HH eV;exact⟨xP,s.toks,rfl,tc,⟨a,ents,ep,_,_,fa,rfl,tc a _ (w.not g1 (show I' "dict"∈rL by decide)) g1,wa,k4▸pZ⟩,_,_,_,_,rfl,vz.extBut _ _ (G_ (I7 hit)) eI,(ta r (JK _)).1,_,_,rfl,⟨_,rfl⟩,_,_,rfl,VR.yn (w.yn tc) _ hv,rfl⟩
theorem Wc{t:IT}{x:V}{l:List V}{I:J0}{i:Nat}{sc:Scope}(r:Rl F.b f C J s.heap)(w:Wr F yR C s.heap wr)(st:y8 f C s.heap wr I i t)(hl:t.is l J)(hx:l[i]?=JS x)(ht:rP sc t.k xs=JQ):wpAny (model F.b.prog F.b.w) A (pyNext (.ref I)) (rq (model F.b.prog F.b.w) A f C s wr I i t x (toT zw xs) Z) Z' s:=by cases t with|tup=>cases hl;exact Kw w st hx|str=>cases hl;exact Kx w st hx|list=>exact Kz r w st hl hx|dict=>obtain⟨es,hn,rfl⟩:=hl;exact L7 r w st hn hx|range=>obtain⟨_,rfl⟩:=hl;exact Ky w st hx|enum=>obtain⟨ys,hn,rfl⟩:=hl;rw[Gi]at hx;obtain⟨y,hy,rfl⟩:=JB.mp hx;exact L6 r w st hn hy ht|items=>obtain⟨es,hn,rfl⟩:=hl;rw[JF]at hx;obtain⟨e,he,rfl⟩:=JB.mp hx;exact L5 r w st hn he ht
theorem next_end{t:IT}{l:List V}{I:J0}{Q:Option JM->JI->Prop}(hh:A.handled=none)(r:Rl F.b f C J s.heap)(st:y8 f C s.heap wr I l.length t)(hl:t.is l J)(hQ:∀h' tk,y3 wr s.heap h'->Q none {s with heap:=h',toks:=tk}):wpAny (model F.b.prog F.b.w) A (pyNext (.ref I)) Q Z s:=by
 cases t with
 |tup=>cases hl;obtain⟨tt,items,ep,sl,g1,g2,g3,rfl,hit⟩:=st;exact wpAny_pyNext_tuple_end hh hit ⟨_,g1,rfl,_,rfl⟩ (by obtain this:=g3.length;replace this:=J8.symm.trans this;rw[<-this];exact Gb) λh' hs=>hQ h' s.toks (y3.but hs)
 |str ss=>
  cases hl;obtain⟨rfl,tk,T,hT,hit⟩:=st;obtain lr:(tx ss).cps[(ss.map λc=>V.str [c]).length]?=none:=by unfold tx;rw[JN];simp
  rcases hT with rfl|rfl;.exact wpAny_pyNext_ascii_end hh hit lr λh' hs=>hQ h' s.toks (y3.but hs)
  .exact wpAny_pyNext_wide_end hh hit lr λh' hs=>hQ h' s.toks (y3.but hs)
 |list=>obtain⟨a,fa,rfl,hit⟩:=st;obtain⟨w1,items,ep,g1,g2⟩:=xf r fa hl;exact wpAny_pyNext_list_end hh hit ⟨_,g1,rfl,_,rfl⟩ (by have:=g2.length;replace this:=J8.symm.trans this;rw[<-this];exact Gb) λh' hs=>hQ h' s.toks (y3.but hs)
 |dict=>obtain⟨es,hn,rfl⟩:=hl;obtain⟨a,ents,ep,fa,rfl,g1,wa,hit⟩:=st;obtain⟨w1,wV,yW,tw,dr,nd⟩:=vk r fa hn;obtain⟨rfl,rfl⟩:=jj (g1.symm.trans tw);obtain⟨kvs,hm,k1,k2,k3,k4⟩:=qu dr nd g1;rw[<-k4]at hit;exact wpAny_pyNext_dict_end hh hit hm (Gs (by rewrite[JN];rw[k3];exact JK _)) λh' hs=>hQ h' s.toks (y3.but hs)
 |range=>obtain⟨_,rfl⟩:=hl;obtain⟨rfl,hit⟩:=st;rw[JN,Hc]at hit;exact wpAny_pyNext_range_end hh hit (by lia) λh' hs=>hQ h' s.toks (y3.but hs)
 |enum=>obtain⟨ys,hn,rfl⟩:=hl;obtain⟨a,T,old,fa,rfl,wU,he,hit⟩:=st;obtain⟨w1,items,ep,g1,g2⟩:=xf r fa hn;rw[H7]at he hit;exact wpAny_pyNext_enum_end hh he hit ⟨_,g1,rfl,_,rfl⟩ (by have:=g2.length;replace this:=J8.symm.trans this;rw[<-this];exact Gb) λh' hs=>hQ h' s.toks ((y3.but hs).mono λc hc=>by rw[JP.mp hc];exact J2 _ JH)
 |items=>obtain⟨es,hn,rfl⟩:=hl;obtain⟨a,ents,ep,ok,ov,fa,rfl,g1,wa,hit⟩:=st;obtain⟨w1,wV,yW,tw,dr,nd⟩:=vk r fa hn;obtain⟨rfl,rfl⟩:=jj (g1.symm.trans tw);obtain⟨kvs,hm,k1,k2,k3,k4⟩:=qu dr nd g1;rw[<-k4]at hit;exact wpAny_pyNext_items_end hh hit hm (Gs (by rewrite[JN];rw[k3];exact JK _)) λh' hs=>hQ h' s.toks (y3.but hs)
end
open PySem PySem.W PySem.Calls PyProof.Rows
theorem VT{i:Int}(h:small i=JQ):-(2^60:Int)<=i/\i<=2^60:=by obtain this:i.natAbs<=2^60:=JA h;lia
theorem L_{m:Int}(h:small m=JQ):FO 0 m 1=JQ/\H4 0 m 1=(m.toNat:Int):=by
 obtain hb:=VT h;obtain e:H4 0 m 1=(m.toNat:Int):=by
  unfold H4;rw[if_pos (by decide)];split;.rw[Int.ediv_one];lia
  .lia
 refine⟨?_,e⟩;unfold FO;rw[e];simp only[Builtin.Range.rangeFitsLong,IW,Iq,decide_eq_true_eq];refine⟨⟨⟨⟨by decide,?_⟩,by decide⟩,?_⟩,.inr ?_⟩;.constructor<;>lia
 .constructor<;>lia
 .rw[if_pos (by decide)];simp only[IW,decide_eq_true_eq];constructor<;>lia
section
variable{F:Fr}{fr wr:List J0}{f f' zB:FM}{C zm zD:OW}{h h':Im}{yR s s' zd:JI}{J zy zt:St}{A:Ip}{env:Env}{L zN:Loc}{zw:Pi}{xs:List Nat}{Z Z':JM->JI->Prop}{out:SR}
noncomputable def gn(F:Fr)(f:FM)(C:OW)(s:JI)(t:IT)(zt:St)(x:JM)(yq:JI):Prop:=X4 λzB zD I wr=>C4 (x=.ref I) (Done F [] f C s zt zB zD yq) (Wr F s zD yq.heap wr) (y8 zB zD yq.heap wr I 0 t)
theorem qQ{t:IT}{I:J0}{tk:Nat}(zF:Done F [] f C s zt zB zD zd)(g:grows zd.heap h')(hw:∀c∈wr,zd.heap.objs.size<=c)(st:y8 zB zD h' wr I 0 t):gn F f C s t zt (.ref I) {zd with heap:=h',toks:=tk}:=by refine⟨zB,zD,I,wr,rfl,zF.trans (Done.grow zF.rel g rfl rfl),⟨λc hc=>J1.mpr λo q=>?_,λc hc=>(ta zF.rel (hw c hc)).1,λc hc=>(ta zF.rel (hw c hc)).2,st.cls⟩,st⟩;obtain⟨o',vi⟩:=zF.ext.live c o q;exact absurd (I7 vi) (GX.mpr (hw c hc))
theorem one_le:∀{h:Im},∀c∈[h.objs.size],h.objs.size<=c:=λc hc=>by rw[JP.mp hc];exact JK _
theorem nF(fk:Facts F.b)(r:Rl F.b f C J h){a:J0}{n:Nat}(w:C a=JS n):(a==sysModules)=JT:=beq_false_of_ne λe=>fk.sys (e▸r.fresh a n w)
set_option tactic.hygienic true in theorem Ob(fk:Facts F.b){t:IT}{c:JM}{l:List V}(hk:t.k=.plain)(d:Done F [] f C s zt zB zD zd)(hv:VR zB zD zd.heap t.v c)(hl:t.is l zt):wpAny (model F.b.prog F.b.w) A (pyIter c) (gn F f C s t zt) Z zd:=by
 cases t<;>first|cases hk|skip
 .rename_i vs;obtain⟨t,items,ep,sl,rfl,g1,g2,g3⟩:=hv;refine wpAny_pyIter_tuple ⟨_,g1,rfl,_,rfl⟩ ?_;exact qQ (tk:=zd.toks) d (xE _ _) one_le ⟨t,items,ep,sl,xE _ _ _ _ g1,g2,zS.ext (Ext.grow (fr:=[]) (xE _ _)) _ g3,rfl,_,J7 _ rfl,rfl,rfl⟩
 .rename_i ss;obtain⟨t,rfl⟩:=hv;cases ha:(tx ss).cps.all (.<128)with|true=>exact wpAny_pyIter_ascii ha (qQ (tk:=zd.toks) (t:=.str ss) d (xE _ _) one_le ⟨rfl,t,_,.inl rfl,_,J7 _ rfl,rfl,rfl⟩)|false=>exact wpAny_pyIter_wide ha (qQ (tk:=zd.toks) (t:=.str ss) d (xE _ _) one_le ⟨rfl,t,_,.inr rfl,_,J7 _ rfl,rfl,rfl⟩)
 .obtain⟨a,fa,rfl⟩:=hv;obtain⟨w1,items,ep,g1,g2⟩:=xf d.rel fa hl;exact wpAny_pyIter_list ⟨_,g1,rfl,_,rfl⟩ (qQ (tk:=zd.toks) (t:=.list _) d (xE _ _) one_le ⟨a,fa,rfl,_,J7 _ rfl,rfl,rfl⟩)
 .obtain⟨a,fa,rfl⟩:=hv;obtain⟨es,hn,rfl⟩:=hl;obtain⟨w1,ents,ep,g1,dr,nd⟩:=vk d.rel fa hn;obtain⟨kvs,hm,k1,k2,k3,k4⟩:=qu dr nd g1;refine wpAny_pyIter_dict (nF fk d.rel w1) hm ?_;rw[k4];exact qQ (tk:=zd.toks) (t:=.dict _) d (xE _ _) one_le ⟨a,ents,ep,fa,rfl,xE _ _ _ _ g1,w1,_,J7 _ rfl,rfl,rfl⟩
theorem LX{x:Sem JM}{M:Model}{Q:List JM->JI->Prop}(h:wpAny M A x (λv s'=>Q [v] s') Z s):wpAny M A (spliced [(JT,x)]) Q Z s:=by rw[spliced];refine JR (JC h (λv s' h'=>?_) λzz zz x=>x);simp only[Iv,if_false];exact JR (JL (JR (JE (GD (JL h')))))
theorem Wo{k:IK}{m:M}(h:wB m=JQ)(x:JM):foldedSetIterable (ow zw k (zW m (sD zw k))) env x=pure x:=by
 cases k<;>first|rfl|skip
 cases m<;>first|rfl|cases h
theorem call_one{y:Nat}{iW:Str}{v:V}{m:M}{p pos:Pos}{Q:JM->JI->Prop}{cv:V}(hy:nm y=iW)(hg:prog.glob y=JS cv)(pU:nE env.scope iW=JQ)(hf:sN cv=JQ)(hM:wB m=JQ)(h:E F L m J (.ok v zt))(ok:yy F.b.X m zw env.scope=JQ)(c:Cx F L J env A f C s)(k:∀fv w f' zm s',Done F [] f C s zt f' zm s'->VR f' zm s'.heap cv fv->VR f' zm s'.heap v w->wpAny (model F.b.prog F.b.w) A (E_ fv [w]) Q Z s'):wpAny (model F.b.prog F.b.w) A (eval (.Call (.Name iW p) [zW m zw] [] pos) env) Q Z s:=by show wpAny _ A (eval (.Name iW p) env>>=λfv=>callWith pos fv [] (backTo pos (starEach [zW m zw] env)) []) _ _ _;refine JR (fX c.ak.ok.glob c.rel c.en hy pU hg λwv nY=>?_);rw[dP hM];refine jw rfl (LX (h.k ok c λw f' zm s' d hv=>?_));obtain nY:=VR.ext d.ext _ nY;exact⟨dq c.ak.ok d.rel nY hf,k wv w f' zm s' d nY hv⟩
theorem XS{t:IT}{m:M}{l:List V}{sc:Scope}(P7:sc=env.scope)(hI:d7 sc t.k m zw=JQ)(hm:E F L m J (.ok t.v zt))(ok:yy F.b.X m (sD zw t.k) sc=JQ)(c:Cx F L J env A f C s)(hl:t.is l zt):wpAny (model F.b.prog F.b.w) A (eval (ow zw t.k (zW m (sD zw t.k))) env) (λx zd=>wpAny (model F.b.prog F.b.w) A (pyIter x) (gn F f C s t zt) Z zd) Z s:=by
 subst P7;obtain⟨hM,hI⟩:=zh hI;cases t with
 |tup|str|list|dict=>exact hm.k ok c λw f' zm s' d hv=>Ob c.ak.ok rfl d hv hl
 |range i=>obtain⟨y,eF,eE⟩:=c.ak.ok.range;refine call_one eF eE hI rfl hM hm ok c λfv w zB zD zd d ef hv=>?_;cases ef;obtain⟨hs,rfl⟩:=hl;obtain⟨t,rfl⟩:=hv;refine call_range_1 ?_;obtain⟨h1,h2⟩:=L_ hs;refine wpAny_pyIter_range (s:={zd with heap:=zd.heap.push _,toks:=_}) (IsRange.new ..) h1 ?_;rw[h2];obtain ze:=d.trans (Done.grow (fr:=[]) (s':={zd with heap:=zd.heap.push {cls:=.type "range",data:=.fields #[.int 0 zd.toks,.int i t,.int 1 (zd.toks+1)]},toks:=zd.toks+1+1}) d.rel (xE _ _) rfl rfl);exact qQ (tk:=zd.toks+1+1) (t:=.range i) ze (xE _ _) one_le ⟨rfl,by obtain this:=J7 (zd.heap.push {cls:=.type "range",data:=.fields #[.int 0 zd.toks,.int i t,.int 1 (zd.toks+1)]}) (o:={cls:=.type "range_iterator",data:=.fields #[rawInt 0,rawInt (i.toNat:Int),rawInt 1]}) rfl;simpa[IsRangeIter]using this⟩
 |enum n=>
  obtain⟨y,eF,eE⟩:=c.ak.ok.enum;refine call_one eF eE hI rfl hM hm ok c λfv w zB zD zd d ef hv=>?_;cases ef;obtain⟨ys,hn,rfl⟩:=hl;obtain⟨ad,fa,rfl⟩:=hv;obtain⟨w1,items,ep,g1,g2⟩:=xf d.rel fa hn;refine call_enumerate_list ⟨_,g1,rfl,_,rfl⟩ λh' he hit hz hk=>?_;refine wpAny_pyIter_enum (s:={zd with heap:=h'}) he ?_;exact qQ (tk:=zd.toks) (t:=.enum n) (wr:=[zd.heap.objs.size+1,zd.heap.objs.size]) d hk (λc hc=>by
   rcases JJ.mp hc with q|q;.rw[q];exact GC _
   .rw[JP.mp q];exact JK _) ⟨ad,_,_,fa,rfl,Em _,he,hit⟩
 |items n=>
  obtain⟨hb,hp⟩:=zh hI;show wpAny _ A (eval (.Call (.Attribute (zW m (sh zw 0)) "items" (zw [2]).p) [] [] (zw []).p) env) _ _ _;rewrite[arm_eval_Call];rw[dQ hb];refine JR (hm.k ok c λw zB zD zd d hv=>JR (J3 ?_));obtain⟨ad,fa,rfl⟩:=hv;obtain⟨es,hn,rfl⟩:=hl;obtain⟨w1,ents,ep,g1,dr,nd⟩:=vk d.rel fa hn;obtain⟨kvs,jF,k1,k2,k3,k4⟩:=qu dr nd g1;unfold methodCall;obtain hT:zd.TypeIs (.ref ad) "dict":=⟨_,g1,rfl⟩;rw[show methodCallForm (([]:List Expr).length+([]:List Keyword).length) (backTo (zw []).p (starEach [] env)) (backToKw (zw []).p (keywordEach [] env))=JQ from rfl];refine JR (JE (getMethod_builtin hT Hi G0 (by kernel_rfl) (λa e=>by cases e;exact⟨_,g1,rfl⟩) ?_));dsimp only;obtain mp:methodCallPos JQ (zW m (sh zw 0)) env (zw [2]).p (zw []).p=pure (zw []).p:=by unfold methodCallPos;rw[show(!JQ||(zw [2]).p.endLine==(zw []).p.line)=JQ by rw[JD hp];simp];rfl
  rw[mp];refine JR (JL (jw rfl (GD ⟨⟨_,.inr rfl,Ha (by kernel_rfl)⟩,?_⟩)));refine call_meetsIn G0 hT PySem.F.entry_dict_items (PySem.F.args_dict_items_1 _) (meets_dict_items (strKind F.b.prog F.b.w) ad (nF c.ak.ok d.rel w1)) ⟨⟨kvs,jF.dictOf⟩,?_⟩;obtain gv:(zd.heap.push {cls:=.type "dict_items",data:=.fields #[.ref ad]}).IsItemsView zd.heap.objs.size ad:=⟨_,J7 _ rfl,rfl,rfl⟩;refine wpAny_pyIter_items (s:={zd with heap:=zd.heap.push {cls:=.type "dict_items",data:=.fields #[.ref ad]}}) gv (jF.push _) ?_;rw[k4];exact qQ (tk:=zd.toks) (t:=.items n) (d.trans (jb (fr:=[]) d.rel {cls:=.type "dict_items",data:=.fields #[.ref ad]})) (xE _ _) one_le ⟨ad,ents,ep,_,_,fa,rfl,xE _ _ _ _ (xE _ _ _ _ g1),w1,J7 _ rfl⟩
theorem av{v:V}{L L':Loc}(h:vP xs v L=JS L')(hx:∀x,xs≠[x]):∃vs,v=.tup vs/\stores xs vs L=JS L':=by match xs,hx,h with|[x],hx,zo=>exact absurd rfl (hx x)|[],zo,h|zY::zH::ya,xk,h=>cases v<;>first|exact⟨_,rfl,h⟩|cases h
theorem bC{v:V}{w:JM}{L L':Loc}{Q:Unit->JI->Prop}{prog:Program}{wo:World}(hh:A.handled=none)(z:tT F.b env)(ho:∀x∈xs,vq env.scope (nm x)=JQ/\rx env fr x)(hb:vP xs v L=JS L')(r:Rl F.b f C J s.heap)(e:yj f C s.heap env L)(hv:VR f C s.heap v w)(hQ:∀s',Done F fr f C s J f C s'->yj f C s'.heap env L'->Q () s'):wpAny (model prog wo) A (assign (toT zw xs) env w) Q Z s:=by match xs,ho,hb with|[x],ho,hb=>cases hb;show wpAny _ A (assign (.Name (nm x) (zw []).p) env w) _ _ _;rw[F'];obtain⟨o1,o2⟩:=ho x JH;exact JR (J3 (oO r e z o1 o2 hv hQ))|[],ho,hb|x::y::r',ho,hb=>obtain⟨vs,rfl,hs⟩:=av hb (by intro x q;cases q);obtain⟨t,items,ep,sl,rfl,g1,g2,g3⟩:=hv;exact bD hh z ho hs r e g1 g3 hQ
inductive FL(F:Fr)(xs:List Nat)(t:IT)(l:List V)(b:S):Nat->Loc->St->SR->Prop|stop{L:Loc}{J:St}:t.is l J->FL F xs t l b 0 L J (.ok .next L J)|turn{L zN yi:Loc}{J zt:St}{j:Nat}{x:V}{out:SR}:t.is l J->l[l.length-(j+1)]?=some x->vP xs x L=some zN->XB F zN b J (.ok .next yi zt)->FL F xs t l b j yi zt out->FL F xs t l b (j+1) L J out|ret{L zN yi:Loc}{J zt:St}{j:Nat}{x v:V}:t.is l J->l[l.length-(j+1)]?=some x->vP xs x L=some zN->XB F zN b J (.ok (.ret v) yi zt)->FL F xs t l b (j+1) L J (.ok (.ret v) yi zt)|exc{L zN yi:Loc}{J zt:St}{j:Nat}{x e:V}:t.is l J->l[l.length-(j+1)]?=some x->vP xs x L=some zN->XB F zN b J (.exc e yi zt)->FL F xs t l b (j+1) L J (.exc e yi zt)
theorem xe{t:IT}{l:List V}{m:M}{b:S}(hq:F.q=JT)(hm:E F L m J (.ok t.v zt))(hl:t.is l zt)(hd:t.d=JT)(h':FL F xs t l b l.length L zt out):X1 F L (.for xs t.k m b) J out:=by
 refine⟨λ{zw env A f C s}ok c=>?_⟩;obtain⟨o1,o2⟩:=zh ok;obtain⟨hT,hI⟩:=zh o1;obtain⟨om,ob⟩:=zh o2;have hh:=c.ak.hand hq;obtain ho:∀x∈xs,vq env.scope (nm x)=JQ/\rx env (xH env) x:=λx hx=>⟨Iz.mp (zh hT).1 x hx,.inl ⟨c.func,rfl⟩⟩;refine wpAny_For (JC (XS rfl hI hm om c.toCx hl) (λx zd p=>JC p (λx yq p=>?_) λzz zz x=>x) λzz zz x=>x) (Wo (zh hI).1);obtain⟨zB,zD,I,wr,rfl,zF,s8,hO⟩:=p;refine codeAny_forLoop_any (I:=λj s'=>X4 λL' zy f' zm=>C6 (j<=l.length) (Done F (xH env) f C s zy f' zm s') (yj f' zm s'.heap env L') (Wr F s zm s'.heap wr) (y8 f' zm s'.heap wr I (l.length-j) t) (FL F xs t l b j L' zy out)) ?_ l.length ⟨L,zt,zB,zD,JK _,zF.wide,c.en.ext zF.ext,s8,by rw[Hn];exact hO,h'⟩;intro j yq⟨yi,zb,yg,yk,hj,ze,we,xK,oy,qo⟩;have body:∀{j:Nat}{x:V}{uq:Loc}{R:Option JM->JI->Prop}{RR:Unit->JI->Prop}{N:JM->JI->Prop},y8 yg yk yq.heap wr I (l.length-(j+1)) t->t.is l zb->l[l.length-(j+1)]?=JS x->vP xs x yi=JS uq->(∀w xy,wpAny (model F.b.prog F.b.w) A (letOwnedTupleGo (toT (sh zw 0) xs) (.ref I) w) (λzz sC=>wpAny (model F.b.prog F.b.w) A (assign (toT (sh zw 0) xs) env w) RR N sC) N xy->R (JS w) xy)->(∀xX,Done F (xH env) f C s zb yg yk xX->Sx F uq zb env A yg yk xX->Wr F s yk xX.heap wr->y8 yg yk xX.heap wr I (l.length-(j+1)+1) t->RR () xX)->wpAny (model F.b.prog F.b.w) A (pyNext (.ref I)) R N yq:=by intro j x uq R RR N oy sX hx hb hR k;refine JC (Wc (zw:=sh zw 0) (Z:=N) (Z':=λzz zz=>False) ze.rel xK oy sX hx hT) (λrr xy hr=>?_) λzz zz x=>x.elim;obtain⟨w,rfl,hr⟩:=hr;refine hR w xy (JC hr (λzz sC lM=>?_) λzz zz x=>x);obtain⟨h',tk,rfl,tc,VI,hv⟩:=lM;have ui:=Done.rH (tk:=tk) ze xK tc;have ly:yj yg yk h' env yi:=we.rH xK tc;have rF:Wr F s yk h' wr:=xK.again VI xK.own;refine bC hh c.st ho hb ui.rel ly hv λxX wW fU=>?_;obtain k5:=nT rF wW.ext (λc hc pb=>rF.frame ly c pb hc);obtain mr:=y8.keep wW.ext.v wW.ext.xO k5 (λq=>by replace q:=hd.symm.trans q;cases q) VI;exact k xX (ui.trans wW) (c.nH (ui.trans wW) fU) (rF.again mr rF.own) mr
 cases qo with
 |stop sX=>refine next_end hh ze.rel (by rw[Nat.sub_zero]at oy;exact oy) sX λh' tk tc=>?_;exact JL ⟨rfl,yg,yk,Done.rH (tk:=tk) ze xK tc,we.rH xK tc⟩
 |turn sX hx hb hB hr=>
  refine body oy sX hx hb (λw xy q=>q) λxX wW u4 s7 mr=>JC (hB.go ob u4) (λr vS p=>?_) λzz zz x=>x.elim;obtain⟨rfl,vL,vU,v5,RE⟩:=p;obtain k6:=nT s7 v5.ext (λc hc pb=>s7.frame u4.en c pb hc);obtain cB:=y8.keep v5.ext.v v5.ext.xO k6 (λq=>by replace q:=hd.symm.trans q;cases q) mr;refine⟨_,Hq _,_,_,vL,vU,by lia,wW.trans v5,RE,s7.again cB (iR s7 v5.ext),?_,hr⟩;rw[show∀j:Nat,j+1<=l.length->l.length-(j+1)+1=l.length-j fromλj h=>by lia]at cB;.exact cB
  .exact hj
 |ret sX hx hb hB=>refine body oy sX hx hb (λw xy q=>q) λxX wW u4 s7 mr=>JC (hB.go ob u4) (λr vS p=>?_) λzz zz x=>x.elim;obtain⟨w,vL,vU,rfl,v5,hv⟩:=p;exact⟨w,vL,vU,rfl,wW.trans v5,hv⟩
 |exc sX hx hb hB=>refine body oy sX hx hb (λw xy q=>q) λxX wW u4 s7 mr=>JC (hB.go ob u4) (λzz zz x=>x.elim) λx vS p=>?_;exact Nu c (tU.from wW p)
end
open PySem PySem.W PySem.Calls PyProof.Rows
noncomputable def uk(env:Env):List (Str×NameKind)->List (Str×J0)->List (Str×J0)|[],acc=>acc|(n,k)::r,acc=>if k==.free then uk env r ((n,(env.cells.lookup n).getD 0)::acc)else uk env r acc
set_option tactic.hygienic true in theorem gG(env:Env):∀(l:List (Str×NameKind))(acc:List (Str×J0))(n:Str)(c:J0),(n,c)∈uk env l acc->(n,c)∈acc\/((n,.free)∈l/\c=(env.cells.lookup n).getD 0)
|[],zo,zY,zH,h=>.inl h
|(m,k)::r,acc,n,c,h=>by
 unfold uk at h;split at h
 .rename_i hk;rcases gG env r _ n c h with z|z
  .rcases JJ.mp z with e|e
   .cases e;have:k=.free:=by simpa using hk
    subst this;exact .inr ⟨JH,rfl⟩
   .exact .inl e
  .exact .inr ⟨J2 _ z.1,z.2⟩
 .rcases gG env r _ n c h with z|z;.exact .inl z
  .exact .inr ⟨J2 _ z.1,z.2⟩
set_option tactic.hygienic true in theorem gH(env:Env):∀(l:List (Str×NameKind))(acc:List (Str×J0))(n:Str),(∀c,(n,c)∈acc->c=(env.cells.lookup n).getD 0)->((n,HE)∈l\/(acc.lookup n).isSome=JQ)->(uk env l acc).lookup n=JS ((env.cells.lookup n).getD 0)
|[],acc,n,ha,h=>by
 rcases h with h|h;.cases h
 .obtain⟨c,hc⟩:=I2.mp h;show acc.lookup n=_;rewrite[hc];rw[ha c (mem_of_lookup hc)]
|(m,k)::r,acc,n,ha,h=>by
 unfold uk;split
 .rename_i hk;refine gH env r _ n (λc hc=>?_) ?_
  .rcases JJ.mp hc with e|e;.cases e;rfl
   .exact ha c e
  .by_cases q:n=m;.subst q;exact .inr (by rw[Hp];simp)
   .rcases h with h|h
    .rcases JJ.mp h with e|e;.cases e;exact absurd rfl q
     .exact .inl e
    .refine .inr ?_;rw[Hp,show(n==m)=JT by simpa using q];exact h
 .rename_i hk;refine gH env r acc n ha ?_;rcases h with h|h
  .rcases JJ.mp h with e|e;.cases e;exact absurd rfl hk
   .exact .inl e
  .exact .inr h
set_option tactic.hygienic true in theorem gJ{env:Env}(f:Str×NameKind->List (Str×J0)->Sem (ForInStep (List (Str×J0))))(hf:∀n k cs,f (n,k) cs=if k==.free then(do pure (.yield ((n,<-cellOf env n)::cs)))else pure (.yield cs)):∀(l:List (Str×NameKind))(acc:List (Str×J0)),(∀n,(n,HE)∈l->(env.cells.lookup n).isSome=JQ)->(forIn l acc f:Sem _)=pure (uk env l acc)
|[],acc,zo=>by rw[GQ];rfl
|(n,k)::r,acc,h=>by
 rewrite[Ge];rw[hf];unfold uk;split
 .rename_i hk;have:k=.free:=by simpa using hk
  subst this;obtain⟨c,hc⟩:=I2.mp (h n JH);rw[show cellOf env n=pure c by unfold cellOf;rw[hc]];simp only[pure_bind];rewrite[gJ f hf r _ λn hn=>h n (J2 _ hn)];rw[hc];rfl
 .simp only[pure_bind];exact gJ f hf r _ λn hn=>h n (J2 _ hn)
theorem Rt{sc:Scope}{env:Env}(h:∀n,(n,HE)∈sc.names->(env.cells.lookup n).isSome=JQ):closureFor sc env=pure (uk env sc.names []):=by unfold closureFor;simp only[];rw[gJ (env:=env) _ (λn k cs=>?_) sc.names [] h];all_goals rfl
section
variable{prog:Program}{w:World}{A:Ip}{s:JI}
theorem Rn{R:Result->JI->Prop}{elt target iter:Expr}{ifs:List Expr}{scope:Scope}{pos:Pos}{it acc:JM}{env:Env}(I:Nat->JI->Prop)(turn:∀n s,I n s->wpAny (model prog w) A (pyNext it) (λr zd=>match r with|none=>R (.ok .next) zd|JS v=>wpAny (model prog w) A (letOwnedTupleGo target it v) (λzz VE=>wpAny (model prog w) A (assign target env v) (λzz yq=>wpAny (model prog w) A (forIn ifs JQ λc r=>if r=JQ then do let ok<-isTrue c env (eval c env);pure (Gd ok)else pure (Gd r)) (λok xy=>if ok=JQ then wpAny (model prog w) A (eval elt env) (λx sC=>wpAny (model prog w) A (call (.builtin "list.append") [acc,x]) (λzz xX=>∃m,m<n/\I m xX) (λzz zz=>False) sC) (λzz zz=>False) xy else∃m,m<n/\I m xy) (λzz zz=>False) yq) (λzz zz=>False) VE) (λzz zz=>False) zd) (λzz zz=>False) s)(n:Nat)(h:I n s):codeAny (model prog w) A (.compLoop (.ListComp elt [⟨target,iter,ifs,0⟩] scope pos) 0 it acc env) R s:=by refine codeAny_loop rfl I (λn s hI=>?_) n h;show wpAny _ A ((compTurn (.ListComp elt [⟨target,iter,ifs,0⟩] scope pos) 0 it acc env).onRaise (λx=>do noteFrame x env;theTreesLotGoes x)) _ _ s;refine wpAny_noted ?_;rw[compTurn_list];refine JR (J3 (JR (JC (turn n s hI) (λr zd wL=>?_) λzz zz h'=>h'.elim)));cases r with|none=>exact JL wL|some v=>refine JR (JC wL (λzz VE Om=>?_) λzz zz h'=>h'.elim);refine JR (JC Om (λzz yq xP=>JR (JC xP (λok xy Xc=>?_) λzz zz h'=>h'.elim)) λzz zz h'=>h'.elim);cases ok with|false=>exact JL ⟨rfl,Xc⟩|true=>exact JR (JR (JC Xc (λx sC lM=>JR (JC lM (λzz xX Ol=>JL (JL ⟨rfl,Ol⟩)) λzz zz h'=>h'.elim)) λzz zz h'=>h'.elim))
end
section
variable{F:Fr}{fr wr:List J0}{f f' zB:FM}{C zm zD:OW}{h h':Im}{yR s s' zd:JI}{J zy zt:St}{A:Ip}{env:Env}{L L':Loc}{M:Model}{E:JM->JI->Prop}
theorem Done.fresh(x:Done F [] f C s zt zB zD zd)(y:Done F wr zB zD zd zy f' zm s')(hw:∀c∈wr,s.heap.get? c=none):Done F [] f C s zy f' zm s':=by
 obtain nw:∀{c o},s.heap.get? c=JS o->c∉wr:=λe q=>by rw[hw _ q]at e;cases e
 have z:=(x.wide (qq:=wr)).trans y;exact⟨⟨z.ext.wG,z.ext.xO,z.ext.nD,z.ext.live,λc o e n zz t=>z.ext.keep c o e n (nw e) t,z.ext.tup⟩,z.rel,z.gens,z.os,z.uM⟩
theorem NK{scope:Scope}{cl:List (Str×J0)}{g:J0}{q:Str}{Q:Env->JI->Prop}(hc:∀x∈scope.names,x.2≠.cell)(h:Q (newEnv scope s.heap.objs.size g cl q none .none (JS env) builtinsNs) {s with heap:=s.heap.push {cls:=.type "dict",data:=.dict #[]}}):wpAny M A (newFunctionEnv scope g cl [] q none .none (JS env)) Q E s:=by
 simp only[newFunctionEnv,Option.isSome_some,if_true];refine JR (Ei ?_);rw[forIn_yield_id cl (λx hx c=>by
  obtain⟨name,kind⟩:=x;obtain this:(kind==FG)=JT:=by simpa using hc _ hx
  simp only[this,Iv,if_false])];refine JR (JL (JR ?_));rw[GQ];exact JL (JL h)
theorem Ww{kK:Str->NameKind->NameKind}:∀(l:List (Str×NameKind))(x:Str),(l.map λ(n,k)=>(n,kK n k)).lookup x=(l.lookup x).map (kK x)
|[],zo=>rfl
|(n,k)::r,x=>by
 show List.lookup x ((n,kK n k)::r.map λ(n,k)=>(n,kK n k))=_;rewrite[Hp];rw[Hp];cases hx:x==n with
 |true=>
  have:x=n:=by simpa using hx
  subst this;rfl
 |false=>exact Ww r x
theorem Vo{sc:Scope}{x:Str}:(relabel sc env).names.lookup x=(sc.names.lookup x).map λk=>if(k==.free&&env.scope.kind==.function&&env.kindOf x==JS .cell)then .cell else k:=by rw[<-Ww (kK:=λn k=>if(k==.free&&env.scope.kind==.function&&env.kindOf n==JS .cell)then .cell else k)];show(sc.names.map _).lookup x=_;congr 1;apply HG;intro p _;obtain⟨n,k⟩:=p;dsimp only;split<;>rfl
structure gm(env:Env)(sc:Scope)(xs:List Nat):Prop where
 kind:sc.kind=.function
 out:env.scope.kind=.function
 gen:sc.isGenerator=false
 K1:sc.isCoroutine=false
 free:∀n,(n,NameKind.free)∈sc.names->env.kindOf n=some .cell
 kinds:∀p∈sc.names,p.2=.free\/p.2=.local\/p.2=.globalImplicit
 loc:∀n,(n,NameKind.local)∈sc.names->sc.names.lookup n=some .local/\(n=".0"\/∃x∈xs,n=nm x)
theorem Rk{sc:Scope}{xs:List Nat}(h:d8 env.scope sc xs=JQ):gm env sc xs:=by
 simp only[d8,IW,Ii,Iz,beq_iff_eq]at h;obtain⟨⟨⟨⟨⟨h0,h1⟩,h2⟩,h3⟩,h4⟩,h5⟩:=h;refine⟨h1,h2,h3,h4,fun n hn=>?_,fun p hp=>?_,fun n hn=>?_⟩;·obtain this:=h5 _ hn;simp only[isFree,Iq,IW,beq_iff_eq,reduceCtorEq,or_self,or_false]at this;exact this.2
 ·obtain this:=h5 _ hp;simp only[isFree,Iq,IW,beq_iff_eq]at this;exact this.imp_left (·.1)
 ·obtain this:=h0 _ hn;simp only[WN,pP,Iq,IW,beq_iff_eq,bne_self_eq_false,Iv,false_or,El]at this;exact⟨this.1,this.2⟩
noncomputable def rK(xs:List Nat)(L:Loc):Loc:=xs.foldl (λL x=>rm x L) L
theorem Wz(x:Nat):∀(L:Loc)(y:Nat),lk y (rm x L)=if y=x then none else lk y L
|[],y=>by rewrite[rm];rw[lk];split<;>rfl
|(z,w)::r,y=>by
 have ih:=Wz x r y;unfold rm;rw[sP];cases hz:JG x z with
 |true=>
  have e:=JD hz;subst e;show lk y (rm x r)=_;rw[ih];by_cases q:y=x;.rewrite[if_pos q];rw[if_pos q]
  .rewrite[if_neg q];rewrite[if_neg q];rw[if_neg q]
 |false=>
  show lk y ((z,w)::rm x r)=_;rewrite[sP];rw[ih];by_cases q:y=z;.subst q;rewrite[if_pos rfl];rewrite[if_pos rfl];rw[if_neg (λe=>by rw[e,Gz]at hz;cases hz)]
  .rewrite[if_neg q];rw[if_neg q]
theorem nO:∀(xs:List Nat)(L:Loc)(y:Nat),lk y (rK xs L)=if y∈xs then none else lk y L
|[],L,y=>(if_neg G1).symm
|x::xs,L,y=>by
 show lk y (rK xs (rm x L))=_;rewrite[nO xs];rw[Wz];by_cases a:y=x;.subst a;simp
 .simp[a]
set_option tactic.hygienic true in theorem Rw{sc:Scope}{xs:List Nat}{K:J0}(ee:yj f C h env L)(cs:gm env sc xs)(hK:h.get? K=JS (xu #[] 0))(hw:C K=none)(h0:lk 52 L=none):yj f C h (compEnvC sc (uk env sc.names []) K env) (rK xs L):=by
 have fm:∀{n k},sc.names.lookup n=JS k->(n,k)∈sc.names:=λe=>mem_of_lookup e;have XC:∀{n k'},(relabel sc env).names.lookup n=JS k'->∃k,C3 (sc.names.lookup n=JS k) (k=.free\/k=.local\/k=.globalImplicit) (k'=k\/(k=.free/\k'=.cell)):=by
  intro n k' hn;replace hn:=Vo.symm.trans hn;obtain⟨k,hk,e⟩:=JB.mp hn;refine⟨k,hk,cs.kinds _ (fm hk),?_⟩;split at e;.rename_i hc;simp only[IW,beq_iff_eq]at hc;exact .inr ⟨hc.1.1,e.symm⟩
  .exact .inl e.symm
 have ao:∀{n},(relabel sc env).names.lookup n=JS .cell\/(relabel sc env).names.lookup n=JS .free->(n,HE)∈sc.names:=by intro n hn;rcases hn with hn|hn<;>obtain⟨k,hk,q,e⟩:=XC hn<;>rcases e with rfl|⟨rfl,e⟩<;>first|exact fm hk|(rcases q with q|q|q<;>cases q)
 have look:∀{n},(n,HE)∈sc.names->(uk env sc.names []).lookup n=env.cells.lookup n:=by intro n hn;rw[gH env sc.names [] n (λc hc=>nomatch hc) (.inl hn)];obtain⟨c,hc⟩:=ee.has n (cs.free n hn);rw[hc];rfl
 refine⟨cs.kind,ee.glob,ee.blt,hw,λn hn=>?_,⟨λzz=>none,⟨_,#[],0,hK,rfl,rfl,λe he=>absurd he (by simp),λn=>rfl⟩,λx v hv hk=>?_⟩,λn c hn=>?_,λx v hv hk=>?_⟩;.have:=ao (.inl hn);show∃c,(uk env sc.names []).lookup n=JS c;rw[look this];exact ee.has n (cs.free n this)
 .exfalso;obtain⟨k,hq,_,e⟩:=XC (show(relabel sc env).names.lookup (nm x)=JS .local from hk);rcases e with rfl|⟨_,e⟩
  .rw[nO]at hv;rcases(cs.loc _ (fm hq)).2 with e|⟨y,hy,e⟩
   .have:x=52:=dH (e.trans (by decide+kernel));subst this;split at hv;.cases hv
    .replace hv:=h0.symm.trans hv;cases hv
   .have:x=y:=dH e;subst this;rw[if_pos hy]at hv;cases hv
  .cases e
 .rcases gG env sc.names [] n c hn with z|⟨z1,z2⟩;.cases z
  .obtain⟨c',wb⟩:=ee.has n (cs.free n z1);rw[wb]at z2;have:c=c':=z2;subst this;exact ee.cells n c (mem_of_lookup wb)
 .have hf:=ao hk;rw[nO]at hv;split at hv;.cases hv
  .obtain⟨c,w,c1,c2,c3⟩:=ee.cell x v hv (.inl (cs.free _ hf));exact⟨c,w,(look hf).trans c1,c2,c3⟩
theorem yj.sub{bV:Loc}(e:yj f C h env L)(q:∀y v,lk y bV=JS v->lk y L=JS v):yj f C h env bV:=⟨e.kind,e.glob,e.blt,e.own,e.has,let⟨m,n,a6⟩:=e.loc;⟨m,n,λx v hv hk=>a6 x v (q x v hv) hk⟩,e.cells,λx v hv hk=>e.cell x v (q x v hv) hk⟩
end
open PySem PySem.W PySem.Calls PyProof.Rows
theorem VM:∀{xs:List Nat}{vs:List V}{zN yi L':Loc},(∀y,y∉xs->lk y zN=lk y yi)->stores xs vs zN=JS L'->∃tW,stores xs vs yi=JS tW/\∀y,lk y L'=lk y tW
|[],[],zN,yi,L',hq,h=>by cases h;exact⟨yi,rfl,λy=>hq y G1⟩
|x::xs,v::vs,zN,yi,L',hq,h=>by
 refine VM (xs:=xs) (vs:=vs) (λy hy=>?_) h;rewrite[vI];rw[vI];by_cases a:y=x;.rewrite[if_pos a];rw[if_pos a]
 .rewrite[if_neg a];rw[if_neg a];exact hq y λz=>(JJ.mp z).elim a hy
|[],zo::zY,zH,ya,xk,vR,h|uV::uB,[],s6,kL,gq,gp,h=>by cases h
theorem SW{xs:List Nat}{v:V}{zN yi L':Loc}(hq:∀y,y∉xs->lk y zN=lk y yi)(h:vP xs v zN=JS L'):(∃tW,vP xs v yi=JS tW/\∀y,lk y L'=lk y tW)/\∀y,y∉xs->lk y L'=lk y zN:=by
 match xs,hq,h with
 |[x],hq,h=>
  cases h;refine⟨⟨_,rfl,λy=>?_⟩,λy hy=>?_⟩
  .rewrite[vI];rw[vI];by_cases a:y=x;.rewrite[if_pos a];rw[if_pos a]
   .rewrite[if_neg a];rw[if_neg a];exact hq y λz=>a (JP.mp z)
  .rewrite[vI];rw[if_neg λ(e:y=x)=>hy (e▸JH)]
 |[],hq,h|x::y::r,hq,h=>obtain⟨vs,rfl,hs⟩:=av h (by intro x q;cases q);exact⟨VM hq hs,(hU hs).1⟩
inductive CL(F:Fr)(L:Loc)(xs:List Nat)(t:IT)(l:List V)(elt yd:M)(n0:Nat):Nat->List V->St->List V->St->Prop|stop{acc:List V}{J:St}:t.is l J->CL F L xs t l elt yd n0 0 acc J acc J|skip{j:Nat}{acc ys:List V}{J zt vb:St}{x:V}{zN:Loc}{c:M}:t.is l J->l[l.length-(j+1)]?=some x->vP xs x L=some zN->yd=.cons c .nil->E {F with s:=t.d} zN c J (.ok (.bool false) zt)->CL F L xs t l elt yd n0 j acc zt ys vb->CL F L xs t l elt yd n0 (j+1) acc J ys vb|take{j:Nat}{acc ys:List V}{J zt zb vb:St}{x y:V}{zN:Loc}:t.is l J->l[l.length-(j+1)]?=some x->vP xs x L=some zN->(yd=.nil/\zt=J\/∃c,yd=.cons c .nil/\E {F with s:=t.d} zN c J (.ok (.bool true) zt))->E {F with s:=t.d} zN elt zt (.ok y zb)->zb[n0]?=some (.list acc)->short acc=true->CL F L xs t l elt yd n0 j (acc++[y]) (zb.set n0 (.list (acc++[y]))) ys vb->CL F L xs t l elt yd n0 (j+1) acc J ys vb
section
variable{F:Fr}{fr wr:List J0}{f f' zB:FM}{C zm zD:OW}{h h':Im}{yR s s' zd:JI}{J zy zt:St}{A:Ip}{env:Env}{L L' zN:Loc}{zw:Pi}
theorem RU:entryFor table "dict_itemiterator.__iter__"=JS Builtin.«dict_keyiterator.__iter__»:=entryFor_alias (id':="dict_keyiterator.__iter__") (by kernel_rfl) (by first|rfl|decide+kernel|(unfold String.splitOn;simp+decide [String.splitOnAux])) (by decide+kernel) (by kernel_rfl)
theorem Oa{t:IT}{I:J0}{i:Nat}{Q:JM->JI->Prop}{E:JM->JI->Prop}(st:y8 f C s.heap wr I i t)(h:Q (.ref I) s):wpAny (model F.b.prog F.b.w) A (pyIter (.ref I)) Q E s:=by
 cases t with
 |tup=>obtain⟨_,_,_,_,_,_,_,_,hit⟩:=st;exact wpAny_pyIter_tupleiter hit h
 |str=>
  obtain⟨_,_,T,hT,hit⟩:=st;rcases hT with rfl|rfl;.exact wpAny_pyIter_striter_ascii hit h
  .exact wpAny_pyIter_striter_wide hit h
 |list=>obtain⟨_,_,_,hit⟩:=st;exact wpAny_pyIter_listiter hit h
 |dict=>obtain⟨_,_,_,_,_,_,_,hit⟩:=st;exact wpAny_pyIter_keyiter hit h
 |range=>obtain⟨_,hit⟩:=st;exact wpAny_pyIter_rangeiter hit h
 |enum=>obtain⟨_,_,_,_,_,_,he,_⟩:=st;exact wpAny_pyIter_enum he h
 |items=>obtain⟨_,_,_,_,_,_,_,_,_,hit⟩:=st;obtain hT:s.TypeIs (.ref I) "dict_itemiterator":=⟨_,hit,rfl⟩;refine wpAny_pyIter_slot hT HD (Gn HD hT RU ?_ (PySem.F.args_dict_itemiterator_iter_1 _));show wpAny _ _ (ret (.ref I)) _ _ s;exact JL ⟨_,rfl,"dict_itemiterator",_,hT,PySem.F.slot_dict_itemiterator_next.lookup,h⟩
theorem Rr{a:J0}{o o':Obj}(e:h.get? a=JS o)(e':h.get? a=JS o')(hc:(o.cls==o'.cls)=JT):False:=by rw[e]at e';cases e';rw[beq_self_eq_true]at hc;cases hc
theorem Done.calm{d:Bool}(x:Done {F with s:=d} fr f C s zy f' zm s')(hs:F.s=JT):Done F fr f C s zy f' zm s':=⟨x.ext,x.rel,x.gens,x.os,λq=>by rw[hs]at q;cases q⟩
theorem Cx.calm{d:Bool}(c:Cx F L J env A f C s):Cx {F with s:=d} L J env A f C s:=⟨c.rel,c.en,⟨c.ak.depth,c.ak.units,c.ak.nG,c.ak.ok,c.ak.hand,c.ak.frames⟩⟩
theorem jh{n:Nat}{a:J0}{xs:List V}{items:Array JM}{ep tk:Nat}{h':Im}(z9:F.s=JT)(r:Rl F.b f C J s.heap)(fa:f n=JS a)(w:C a=JS n)(hs:IC a s.heap h')(g:h'.get? a=JS ⟨.type "list",none,.seq items ep,#[]⟩)(hv:zS f C s.heap xs items.toList):Done F [] f C s (J.set n (.list xs)) f C {s with heap:=h',toks:=tk}:=by obtain ex:∀{fr},Ext fr f C s.heap f C h':=Ext.write hs w ⟨_,g⟩;exact⟨ex,r.write hs w ⟨_,g⟩ fa ⟨w,items,ep,g,zS.ext (ex (fr:=[])) _ hv⟩,rfl,rfl,λz=>by replace z:=z9.symm.trans z;cases z⟩
theorem M4{sc:Scope}{x:Str}(h:sc.names.lookup x=JS .local):vW (relabel sc env) x=JS .local:=by unfold vW;rewrite[Vo];rw[h];rfl
theorem M3{sc:Scope}{xs:List Nat}{k:IK}(cs:gm env sc xs)(h:rP sc k xs=JQ):rP (relabel sc env) k xs=JQ/\∀x∈xs,vW (relabel sc env) (nm x)=JS .local:=by
 obtain⟨h1,h2⟩:=zh h;have loc:∀x∈xs,vW (relabel sc env) (nm x)=JS .local:=λx hx=>by
  rcases(Iq _ _).mp (Iz.mp h1 x hx)with q|q;.exact M4 (eq_of_beq q)
  .rcases cs.kinds _ (mem_of_lookup (eq_of_beq q))with z|z|z<;>cases z
 exact⟨Gh.mpr ⟨Iz.mpr λx hx=>by unfold vq pP;rw[loc x hx];rfl,h2⟩,loc⟩
theorem Rj{t:IT}{l:List V}{xs:List Nat}{elt yd:M}{n0:Nat}{Oc:Expr}{sc:Scope}{pos:Pos}{vl:Env}{I D:J0}{ys:List V}{vb:St}{RR:Result->JI->Prop}{o_ UD bb:Pi}(z9:F.s=JT)(hh:A.handled=none)(a:xV F A C s.heap)(st:tT F.b vl)(Px:s.heap.get? vl.locals=none)(hT:rP vl.scope t.k xs=JQ)(tl:∀x∈xs,vW vl.scope (nm x)=JS .local)(oe:yy F.b.X elt UD vl.scope=JQ)(oc:yy F.b.X yd bb vl.scope=JQ)(hR:∀f' zm L' s',Done F [] f C s vb f' zm s'->yj f' zm s'.heap vl L'->f' n0=JS D->RR (.ok .next) s')(zF:Done F [] f C s zt zB zD zd)(xI:yj zB zD zd.heap vl (rK xs L))(s8:Wr F s zD zd.heap wr)(e9:y8 zB zD zd.heap wr I 0 t)(hD:zB n0=JS D)(vJ:CL F L xs t l elt yd n0 l.length [] zt ys vb):codeAny (model F.b.prog F.b.w) A (.compLoop (.ListComp (zW elt UD) [⟨toT o_ xs,Oc,xW yd bb,0⟩] sc pos) 0 (.ref I) (.ref D) vl) RR zd:=by
 refine Rn (I:=λj s'=>X5 λL' zy f' zm acc=>C8 (j<=l.length) (Done F [] f C s zy f' zm s') (yj f' zm s'.heap vl L') (∀y u,lk y (rK xs L)=JS u->lk y L'=JS u) (Wr F s zm s'.heap wr) (y8 f' zm s'.heap wr I (l.length-j) t) (f' n0=JS D) (CL F L xs t l elt yd n0 j acc zy ys vb)) ?_ l.length ⟨rK xs L,zt,zB,zD,[],JK _,zF,xI,λzz zz h=>h,s8,by rw[Hn];exact e9,hD,vJ⟩;intro j yq⟨yi,zb,yg,yk,acc,hj,ze,we,QJ,xK,nV,fD,qo⟩;have body:∀{j:Nat}{x:V}{uq:Loc}{R:Option JM->JI->Prop}{RR:Unit->JI->Prop},y8 yg yk yq.heap wr I (l.length-(j+1)) t->t.is l zb->l[l.length-(j+1)]?=JS x->vP xs x L=JS uq->(∀w xy,wpAny (model F.b.prog F.b.w) A (letOwnedTupleGo (toT o_ xs) (.ref I) w) (λzz sC=>wpAny (model F.b.prog F.b.w) A (assign (toT o_ xs) vl w) RR (λzz zz=>False) sC) (λzz zz=>False) xy->R (JS w) xy)->(∀xX,Done F [] f C s zb yg yk xX->Cx F uq zb vl A yg yk xX->(∀y u,lk y (rK xs L)=JS u->lk y uq=JS u)->Wr F s yk xX.heap wr->y8 yg yk xX.heap wr I (l.length-(j+1)+1) t->RR () xX)->wpAny (model F.b.prog F.b.w) A (pyNext (.ref I)) R (λzz zz=>False) yq:=by
  intro j x uq R RR nV hl hx hb hR k;refine JC (Wc (zw:=o_) (Z:=λzz zz=>False) (Z':=λzz zz=>False) ze.rel xK nV hl hx hT) (λrr xy hr=>?_) λzz zz x=>x;obtain⟨w,rfl,hr⟩:=hr;refine hR w xy (JC hr (λzz sC lM=>?_) λzz zz x=>x);obtain⟨h',tk,rfl,tc,XR,hv⟩:=lM;have ui:=Done.rH (tk:=tk) ze xK tc;have ly:yj yg yk h' vl yi:=we.rH xK tc;have rF:Wr F s yk h' wr:=xK.again XR xK.own;obtain⟨⟨K7,Q8,eT⟩,PI⟩:=SW (yi:=rK xs L) (λy hy=>by rewrite[nO];rw[if_neg hy]) hb;refine bC (F:={F with s:=t.d}) (fr:=[vl.locals]) (J:=zb) (f:=yg) (C:=yk) hh st (λx hx=>⟨Iz.mp (zh hT).1 x hx,.inr ⟨tl x hx,rfl⟩⟩) Q8 ui.rel (ly.sub QJ) hv λxX Yz fU=>?_;obtain wW:=Yz.calm z9;obtain dd:=ui.fresh wW (λc hc=>by rw[JP.mp hc];exact Px);obtain k5:=nT rF wW.ext (λc hc pb=>rF.frame ly c (by rw[JP.mp pb];exact JH) hc);obtain nU:=y8.keep wW.ext.v wW.ext.xO k5 (λq c n ents ep w g=>Yz.uM q c n _ w g) XR;refine k xX dd ⟨wW.rel,fU.congr eT,a.ext dd.ext⟩ (λy u hy=>?_) (rF.again nU rF.own) nU;have ny:y∉xs:=λq=>by rw[nO,if_pos q]at hy;cases hy
  rw[nO,if_neg ny]at hy;rw[PI y ny];exact hy
 have gc:∀{j:Nat}{vL rb:FM}{vU sI:OW}{vS tZ:JI}{oY qM:St}{uq:Loc},Done F [] f C s oY vL vU vS->Cx F uq oY vl A vL vU vS->Wr F s vU vS.heap wr->y8 vL vU vS.heap wr I j t->Done {F with s:=t.d} [] vL vU vS qM rb sI tZ->C4 (Done F [] f C s qM rb sI tZ) (Cx F uq qM vl A rb sI tZ) (Wr F s sI tZ.heap wr) (y8 rb sI tZ.heap wr I j t):=by intro j vL rb vU sI vS tZ oY qM uq d c w i dc;obtain d':=dc.calm z9;obtain i':=y8.keep d'.ext.v d'.ext.xO (nT w d'.ext (λc zz q=>nomatch q)) (λq c n ents ep w g=>dc.uM q c n _ w g) i;exact⟨d.trans d',c.next d',w.again i' (iR w d'.ext),i'⟩
 cases qo with
 |stop hl=>refine next_end hh ze.rel (by rw[Nat.sub_zero]at nV;exact nV) hl λh' tk tc=>?_;exact hR yg yk yi _ (Done.rH (tk:=tk) ze xK tc) (we.rH xK tc) fD
 |skip hl hx hb hc hE hr=>
  subst hc;obtain⟨o1,o2⟩:=zh oc;refine body nV hl hx hb (λw xy q=>q) λxX wW u4 fA s7 nU=>?_;refine wpAny_tests_one (JC (hE.t (zh o2).1 u4.calm) (λr vS p=>?_) λzz zz x=>x.elim);obtain⟨vL,vU,pn,rfl⟩:=p;obtain⟨v5,qC,br,iu⟩:=gc wW u4 s7 nU pn;simp only[Iv,if_false];refine⟨_,Hq _,_,_,vL,vU,acc,by lia,v5,qC.en,fA,br,?_,pn.ext.wG _ _ fD,hr⟩;rw[show∀j:Nat,j+1<=l.length->l.length-(j+1)+1=l.length-j fromλj h=>by lia]at iu;.exact iu
  .exact hj
 |@take j' zo zY zH yO rA ya x y uq hl hx hb hc hE hn nc hr=>
  refine body nV hl hx hb (λw xy q=>q) λxX wW u4 fA s7 nU=>?_;obtain tests:∀{Q:Bool->JI->Prop},(∀vS vL vU,Done {F with s:=t.d} [] yg yk xX yO vL vU vS->Q JQ vS)->wpAny (model F.b.prog F.b.w) A (forIn (xW yd bb) JQ λc r=>if r=JQ then do let ok<-isTrue c vl (eval c vl);pure (Gd ok)else pure (Gd r)) Q (λzz zz=>False) xX:=by
   intro Q hQ;rcases hc with⟨rfl,rfl⟩|⟨c,rfl,hc⟩;.exact wpAny_tests_nil (hQ xX yg yk (Done.refl wW.rel))
   .obtain⟨o1,o2⟩:=zh oc;refine wpAny_tests_one (JC (hc.t (zh o2).1 u4.calm) (λr vS p=>?_) λzz zz x=>x.elim);obtain⟨vL,vU,pn,rfl⟩:=p;exact hQ vS vL vU pn
  refine tests λvS vL vU pn=>?_;obtain⟨v5,qC,br,iu⟩:=gc wW u4 s7 nU pn;simp only[if_true];refine JC (hE.w oe qC.calm) (λw tZ p=>?_) λzz zz x=>x.elim;obtain⟨rb,sI,Yy,Ot⟩:=p;obtain⟨pk,qB,bq,O_⟩:=gc v5 qC br iu Yy;have fC:=Yy.ext.wG _ _ (pn.ext.wG _ _ fD);obtain⟨wD,items,ep,gD,hv⟩:=xf pk.rel fC hn;refine wpAny_list_append_plain ⟨ep,gD⟩ (λOj QN Xl=>?_) (by rewrite[<-J8];rw[hv.length];exact vO nc);obtain⟨yW,Qa⟩:=QN;obtain u1:Done F [] rb sI tZ (rA.set n0 (.list (acc++[y]))) rb sI {tZ with heap:=Oj}:=jh (tk:=tZ.toks) z9 pk.rel fC wD Xl Qa (by rw[GB];exact zS.append hv (zS.single Ot));obtain dw:=y8.keep u1.ext.v u1.ext.xO (nT bq u1.ext (λc zz q=>nomatch q)) (λzz c n ents ep w g=>(Xl.2 c λq=>Rr gD (q▸g) (show(I' "list"==.type "dict")=JT by decide)).trans g) O_;rw[show l.length-(j'+1)+1=l.length-j' by lia]at dw;exact⟨j',Hq _,uq,_,rb,sI,acc++[y],by lia,pk.trans u1,(qB.next u1).en,fA,bq.again dw (iR bq u1.ext),dw,fC,hr⟩
end
open PySem PySem.W PySem.Calls PyProof.Rows
section
variable{F:Fr}{fr wr:List J0}{f f' zB:FM}{C zm zD:OW}{h h':Im}{yR s s' zd:JI}{J zy zt:St}{A:Ip}{env:Env}{L L' zN:Loc}{zw:Pi}
noncomputable def U8(F:Fr)(s:JI)(C:OW)(s':JI)(K:J0):Prop:=C3 (s.heap.get? K=none) (oU F s C s'.heap [K]) (∃m,r5 s'.heap K (.type "dict") m)
theorem aX{t:IT}{l:List V}{xs:List Nat}{elt it yd:M}{ys:List V}{vb:St}{use:Option (JM->Sem Unit)}{Q Z:JM->JI->Prop}(hq:F.q=JT)(z9:F.s=JT)(h0:lk 52 L=none)(ok:yy F.b.X (.comp elt xs t.k it yd) zw env.scope=JQ)(c:Cx F L J env A f C s)(hm:E F L it J (.ok t.v zt))(hl:t.is l zt)(vJ:CL F L xs t l elt yd zt.length l.length [] (zt++[.list []]) ys vb)(hv:∀f' zm D K s',Done F [] f C s vb f' zm s'->f' zt.length=JS D->U8 F s zm s' K->compPost (model F.b.prog F.b.w) A Z use Q (.ref D) K (.ok .next) s'):wpAny (model F.b.prog F.b.w) A (comprehension (zW (.comp elt xs t.k it yd) zw) (zw []).sc env (firstIterPos [⟨toT (sh zw 1) xs,ow (sh zw 2) t.k (zW it (sD (sh zw 2) t.k)),xW yd (sh zw 3),0⟩] (zw []).p) (newList []) JT (eval (ow (sh zw 2) t.k (zW it (sD (sh zw 2) t.k))) env) use) Q Z s:=by
 obtain⟨o1,o2⟩:=zh ok;obtain⟨hc,o1⟩:=zh o1;obtain⟨hT,hI⟩:=zh o1;obtain⟨om,o2⟩:=zh o2;obtain⟨oe,oc⟩:=zh o2;obtain hh:=c.ak.hand hq;have cs:=Rk hc;obtain⟨QI,tl⟩:=M3 (env:=env) cs hT;obtain Pk:∀n,(n,HE)∈(zw []).sc.names->(env.cells.lookup n).isSome=JQ:=λn hn=>let⟨_,q⟩:=c.en.has n (cs.free n hn);by rw[q];rfl
 refine wpAny_comprehension_free (g:=⟨toT (sh zw 1) xs,ow (sh zw 2) t.k (zW it (sD (sh zw 2) t.k)),xW yd (sh zw 3),0⟩) (gs:=[]) rfl (Wo (zh hI).1) (Rt Pk) cs.kind (λp hp hl=>(cs.loc p.1 (by obtain⟨n,kk⟩:=p;dsimp only at hl;subst hl;exact hp)).1) ?_;refine JC (XS rfl hI hm om c hl) (λx zd p=>JC p (λx zd p=>?_) λzz zz x=>x) λzz zz x=>x;obtain⟨zB,zD,I,wr,rfl,zF,s8,e9⟩:=p;refine Hj ?_ (I4 _);have po:=pD (tk:=zd.toks) (vs:=[]) (items:=#[]) zF.rel grows.refl rfl;obtain⟨yg,yk,ze,D,hD,q⟩:=po;obtain qD:D=zd.heap.objs.size:=(Value.ref.inj q).symm;generalize hH:zd.heap.push (mz "list" #[] 0)=H at ze;obtain Jx:H.objs.size=zd.heap.objs.size+1:=by rewrite[<-hH];rw[Gx]
 show wpAny _ A (newFunctionEnv _ _ _ [] _ none .none (JS env)) _ _ {zd with heap:=zd.heap.push (mz "list" #[] 0)};rw[hH];refine NK (λx hx e=>by rcases cs.kinds x hx with z|z|z<;>rw[z]at e<;>cases e) ?_;obtain YD:=xE H (xu #[] 0);obtain QM:(H.push (xu #[] 0)).get? H.objs.size=JS (xu #[] 0):=J7 _ rfl;obtain yP:Done F [] yg yk {zd with heap:=H} (zt++[.list []]) yg yk {zd with heap:=H.push (xu #[] 0)}:=Done.grow ze.rel YD rfl rfl;obtain aT:=(zF.trans ze).trans yP;obtain⟨oK,bK⟩:=ta ze.rel (JK H.objs.size);have nK:s.heap.get? H.objs.size=none:=J1.mpr λo q=>by obtain⟨o',q'⟩:=(zF.trans ze).ext.live _ o q;exact absurd (I7 q') (Nat.lt_irrefl _)
 obtain jk:=ze.trans yP;obtain fV:yj yg yk (H.push (xu #[] 0)) (compEnvC (zw []).sc (uk env (zw []).sc.names []) H.objs.size env) (rK xs L):=Rw (c.en.ext aT.ext) cs QM oK h0;obtain dz:=y8.keep jk.ext.v jk.ext.xO (nT s8 jk.ext λc zz q=>nomatch q) (λzz c n ents ep w g=>YD _ _ (hH▸xE _ _ _ _ g)) e9;obtain Uj:=s8.again dz (iR s8 jk.ext);obtain loop:codeAny (model F.b.prog F.b.w) A (.compLoop (zW (.comp elt xs t.k it yd) zw) 0 (.ref I) (.ref zd.heap.objs.size) (compEnvC (zw []).sc (uk env (zw []).sc.names []) H.objs.size env)) (compPost (model F.b.prog F.b.w) A Z use Q (.ref zd.heap.objs.size) H.objs.size) {zd with heap:=H.push (xu #[] 0)}:=by refine Rj (F:=F) (f:=f) (C:=C) (s:=s) (n0:=zt.length) (D:=zd.heap.objs.size) z9 hh c.ak ⟨bK,(λq=>Hr q),(λq=>Hr q)⟩ nK QI tl oe oc (λf' zm L' s' d' e' QO=>?_) (zd:={zd with heap:=H.push (xu #[] 0)}) aT fV Uj dz (qD▸hD) vJ;obtain⟨m,hn,_⟩:=e'.loc;refine hv f' zm _ _ s' d' QO ⟨nK,⟨λc hc=>by rw[JP.mp hc];exact nK,λc hc=>by rw[JP.mp hc];exact e'.own,λc hc=>by rw[JP.mp hc];exact bK,λc hc=>?_⟩,m,hn⟩;rw[JP.mp hc];obtain⟨o,_,_,g1,g2,_⟩:=hn;exact uw g1 (by rw[g2];exact(show(I' "dict"==.type "tuple")=JT by decide))
 exact codeAny_compStart_list loop (Oa (s:={zd with heap:=H.push (xu #[] 0)}) dz loop)
theorem sj{t:IT}{l:List V}{xs:List Nat}{elt it yd:M}{ys:List V}{vb:St}(hq:F.q=JT)(z9:F.s=JT)(h0:lk 52 L=none)(hm:E F L it J (.ok t.v zt))(hl:t.is l zt)(vJ:CL F L xs t l elt yd zt.length l.length [] (zt++[.list []]) ys vb):E F L (.comp elt xs t.k it yd) J (.ok (.ref zt.length) vb):=by refine E.mk' rfl λ{zw env A f C s}ok c=>?_;refine aX (use:=none) hq z9 h0 ok c hm hl vJ λf' zm D K s' d hD⟨zo,w,m,hn⟩=>⟨m,hn.ns,λh' hs=>?_⟩;exact⟨f',zm,d.c9 (tk:=s'.toks) w (y3.but hs.extBut),D,hD,rfl⟩
theorem Ug{x:Nat}{t:IT}{l:List V}{xs:List Nat}{elt it yd:M}{ys:List V}{vb:St}(hq:F.q=JT)(h0:lk 52 L=none)(hm:E F L it J (.ok t.v zt))(hl:t.is l zt)(vJ:F.s=JT->CL F L xs t l elt yd zt.length l.length [] (zt++[.list []]) ys vb):X1 F L (.asg x (.comp elt xs t.k it yd)) J (.ok .next (st x (.ref zt.length) L) vb):=by
 refine⟨λ{zw env A f C s}ok c=>?_⟩;obtain⟨o1,o2⟩:=zh ok;obtain⟨_,o3⟩:=zh o2;obtain z9:=c.rJ;obtain vJ:=vJ z9;show WS F env A (exec (.Assign [.Name (nm x) (zw [0]).p] (zW (.comp elt xs t.k it yd) (sh zw 1)) (zw []).p) env) _ _ _ _;cases Xm:(env.blockKind==.function&&env.kindOf (nm x)==JS .local&&(zw [0]).p.line==(sh zw 1 []).p.line&&!((sh zw 1 []).sc.names.any λ(n,k)=>n==nm x&&(k==.local||k==.cell)))with
 |false=>
  have hs:swapsWith (zW (.comp elt xs t.k it yd) (sh zw 1)) (JS (.Name (nm x) (zw [0]).p)) (zw []).p.line env=pure JT:=by show pure _=pure JT;exact congrArg pure Xm
  rewrite[WS];rw[exec_Assign_Name (hs:=hs)];refine JR (J3 (JR ((sj hq z9 h0 hm hl vJ).sk o3 c λw f' zm s' d hv c'=>JR (J3 (JR (oO d.rel c'.en c.st o1 (.inl ⟨c.func,rfl⟩) hv λyq ze we=>?_))))));exact JL ⟨rfl,f',zm,d.wide.trans ze,we⟩
 |true=>
  have hs:swapsWith (zW (.comp elt xs t.k it yd) (sh zw 1)) (JS (.Name (nm x) (zw [0]).p)) (zw []).p.line env=pure JQ:=by show pure _=pure JQ;exact congrArg pure Xm
  rewrite[WS];rw[exec_Assign_Name_used _ _ _ _ hs];show wpAny _ A (standAt _>>=λzz=>evalThenUse (.ListComp _ _ _ _) env _>>=λzz=>pure Flow.next) _ _ _;rw[arm_evalThenUse_ListComp];refine JR (J3 (JR (JR ?_)));refine aX (use:=JS (assign (.Name (nm x) (zw [0]).p) env)) hq z9 h0 o3 c.toCx hm hl vJ λf' zm D K s' d hD⟨nK,w,m,hn⟩=>?_;show wpAny _ A (assign (.Name (nm x) (zw [0]).p) env (.ref D)) _ _ s';rw[F'];refine JR (J3 (oO (v:=.ref zt.length) d.rel (c.en.ext d.ext) c.st o1 (.inl ⟨c.func,rfl⟩) ⟨D,hD,rfl⟩ λyq ze we=>?_));have XD:∀c'∈xH env,c'≠K:=λc' pb e=>by
   subst e;rcases jQ pb with rfl|⟨n,hm⟩;.obtain⟨_,⟨o,_,_,a1,_⟩,_⟩:=c.en.loc;replace a1:=nK.symm.trans a1;cases a1
   .obtain⟨_,u,c2⟩:=c.en.cells n c' hm;replace c2:=nK.symm.trans c2;cases c2
  have Xr:r5 yq.heap K (.type "dict") m:=hn.moves λo g hc=>by
   rcases ze.ext.keep K o g (w.own K JH) (λz=>XD K z rfl) (by rw[hc];decide)with z|⟨z,_⟩;.exact⟨o.slots,z⟩
   .replace z:=hc.symm.trans z;exact absurd z (by decide)
  refine⟨m,Xr.ns,λh' hs=>?_⟩;obtain xK:oU F s zm yq.heap [K]:=⟨w.new,w.own,w.base,λc' hc=>by rw[JP.mp hc];obtain⟨o,_,_,g1,g2,_⟩:=Xr;exact uw g1 (by rw[g2];exact(show(I' "dict"==.type "tuple")=JT by decide))⟩;obtain yP:=(d.wide.trans ze).c9 (tk:=yq.toks) xK (y3.but hs.extBut);exact JL (JL ⟨rfl,f',zm,yP,we.keep (xK.yn (y3.but hs.extBut)) λc' o hc ho=>(hs.2 c' (XD c' hc)).trans ho⟩)
end
open PySem PySem.W PySem.Calls PyProof.Rows
noncomputable def jv:Obj:={cls:=.type "cell",data:=.cell none}
set_option tactic.hygienic true in theorem gP:∀(names:List (Str×NameKind))(h:Im)(acc:List (Str×J0))(n:Str)(c:J0),(n,c)∈cellsFrom h.objs.size names acc->(n,c)∈acc\/((pushCells h names).get? c=JS jv/\h.objs.size<=c)
|[],zo,zY,zH,ya,e=>.inl e
|(m,k)::r,h,acc,n,c,e=>by
 unfold cellsFrom at e;unfold pushCells;split at e
 .rename_i hk;rw[if_pos hk];have hz:(h.push jv).objs.size=h.objs.size+1:=Gx ..;rw[<-hz]at e;rcases gP r (h.push jv) _ n c e with z|⟨z1,z2⟩
  .rcases JJ.mp z with q|q;.cases q;exact .inr ⟨pushCells_keeps r _ _ _ (J7 _ rfl),JK _⟩
   .exact .inl q
  .exact .inr ⟨z1,by rw[hz]at z2;lia⟩
 .rename_i hk;rw[if_neg hk];exact gP r h acc n c e
set_option tactic.hygienic true in theorem gO:∀(names:List (Str×NameKind))(k:Nat)(acc:List (Str×J0))(n:Str),((n,FG)∈names\/(acc.lookup n).isSome=JQ)->((cellsFrom k names acc).lookup n).isSome=JQ
|[],zo,zY,zH,h=>by
 rcases h with h|h;.cases h
 .exact h
|(m,kd)::r,k,acc,n,h=>by
 unfold cellsFrom;split
 .refine gO r _ _ n ?_;by_cases q:n=m;.subst q;exact .inr (by rw[Hp];simp)
  .rcases h with h|h
   .rcases JJ.mp h with e|e;.cases e;exact absurd rfl q
    .exact .inl e
   .refine .inr ?_;rw[Hp,show(n==m)=JT by simpa using q];exact h
 .rename_i hk;refine gO r _ _ n ?_;rcases h with h|h
  .rcases JJ.mp h with e|e;.cases e;exact absurd rfl hk
   .exact .inl e
  .exact .inr h
theorem VQ(x:Nat)(v:V):∀(L:Loc),lk x L=none->st x v L=L++[(x,v)]|[],zo=>rfl|(y,w)::r,h=>by unfold lk at h;unfold st;cases q:JG x y with|true=>rw[q]at h;cases h|false=>rw[q]at h;show(y,w)::st x v r=_;rw[VQ x v r h];rfl
theorem X0(y:Nat):∀(L L':Loc),lk y (L++L')=(lk y L).or (lk y L')
|[],zo=>rfl
|(z,w)::r,L'=>by
 rewrite[List.cons_append];rewrite[sP];rewrite[sP];rw[X0 y r L'];by_cases q:y=z;.rewrite[if_pos q];rw[if_pos q];rfl
 .rewrite[if_neg q];rw[if_neg q]
theorem VK:∀{xs:List Nat}{vs:List V}{L:Loc},xs.Nodup->xs.length=vs.length->(∀x∈xs,lk x L=none)->stores xs vs L=JS (L++xs.zip vs)
|[],[],L,zo,zY,zH=>congrArg JS (IV L).symm
|x::xs,v::vs,L,hn,hl,h=>by
 have hn:=Ia.mp hn;show stores xs vs (st x v L)=_;rw[VQ x v L (h x JH)];rw[VK hn.2 (I1 hl) λy hy=>?_]at⊢;.exact congrArg JS (J' ..)
 .rewrite[X0];rewrite[h y (J2 _ hy)];rewrite[sP];rw[if_neg (λq=>hn.1 (by rw[<-q];exact hy))];rfl
|[],zo::zY,zH,ya,h,xk=>nomatch h
|zo::zY,[],zH,ya,h,xk=>nomatch h
section
variable{F:Fr}{fr:List J0}{f:FM}{C:OW}{s:JI}{J zy:St}{A:Ip}{env:Env}{L zN:Loc}{M:Model}{E:JM->JI->Prop}{d:Nat}
theorem au(z:tT F.b env)(hf:env.func.isSome=JQ)(g:Str×JM->PUnit->Sem (ForInStep PUnit))(hg:∀n v u,g (n,v) u=(do storeName env n v;pure (.yield ⟨⟩))):∀(xs:List Nat)(vs:List V)(ws:List JM)(L L':Loc)(s:JI)(Q:PUnit->JI->Prop),zS f C s.heap vs ws->stores xs vs L=JS L'->(∀x∈xs,vq env.scope (nm x)=JQ)->Rl F.b f C J s.heap->yj f C s.heap env L->(∀s',Done F (xH env) f C s J f C s'->yj f C s'.heap env L'->Q ⟨⟩ s')->wpAny M A (forIn ((xs.map nm).zip ws) ⟨⟩ g) Q E s|[],[],zo,L,L',s,Q,hv,hs,zY,r,e,hQ=>by cases hv;cases hs;exact JL (hQ s (Done.refl r) e)|x::xs,v::vs,zo,L,L',s,Q,⟨w,ws,hw,h1,h2⟩,hs,hk,r,e,hQ=>by subst hw;show wpAny M A (forIn ((nm x,w)::(xs.map nm).zip ws) ⟨⟩ g) Q E s;rewrite[Ge];rw[hg];refine JR (JR (cC r e z (hk x JH) (.inl ⟨hf,rfl⟩) h1 λzd zF xI=>JL ?_));exact au z hf g hg xs vs ws _ L' zd Q (zS.ext zF.ext _ h2) hs (λy hy=>hk y (J2 _ hy)) zF.rel xI λyq ze we=>hQ yq (zF.trans ze) we|[],zo::zY,zH,ya,xk,vR,uV,uB,h,s6,kL,gq,gp|bj::bg,[],bf,UZ,UY,UX,UW,UU,h,UT,US,UR,UQ=>by cases h
theorem NJ{scope:Scope}{qual:Str}{a:J0}{code:JM}{xs:List Nat}{vs:List V}{ws:List JM}{Q:Env->JI->Prop}(r:Rl F.b f C J s.heap)(hk:scope.kind=.function)(hv:zS f C s.heap vs ws)(z9:stores xs vs []=JS L)(hs:∀x∈xs,vq scope (nm x)=JQ)(hQ:∀env s',env=newEnv scope s.heap.objs.size mainGlobals (cellsFrom (s.heap.objs.size+1) scope.names []) qual (JS a) code none builtinsNs->Done F [] f C s J f C s'->yj f C s'.heap env L->tT F.b env->(∀c∈xH env,s.heap.get? c=none)->Q env s'):wpAny M A (newFunctionEnv scope mainGlobals [] ((xs.map nm).zip ws) qual (JS a) code none builtinsNs) Q E s:=by
 simp only[newFunctionEnv,Option.isSome_none,Iv,if_false];refine JR (Ei ?_);refine JR (wpAny_layCells _ (λname kind cells=>by cases PZ:kind==FG<;>simp[PZ]) _ _ _ _ ?_);obtain hz:(s.heap.push {cls:=.type "frame",data:=.dict #[]}).objs.size=s.heap.objs.size+1:=Gx ..;obtain ok:=cellsFrom_ok scope.names (s.heap.push {cls:=.type "frame",data:=.dict #[]}) (s.heap.objs.size+1) [] ⟨λzz zz hm=>(nomatch hm),List.Pairwise.nil⟩ (by rw[hz];exact JK _);obtain cc:=gP scope.names (s.heap.push {cls:=.type "frame",data:=.dict #[]}) [];rw[hz]at ok cc;rw[show({s with heap:=s.heap.push {cls:=.type "frame",data:=.dict #[]}}:JI).heap.objs.size=s.heap.objs.size+1 from hz];have g:grows s.heap (pushCells (s.heap.push {cls:=.type "frame",data:=.dict #[]}) scope.names):=λc o e=>pushCells_keeps _ _ _ _ (J6 _ e);obtain zF:Done F [] f C s J f C {s with heap:=pushCells (s.heap.push {cls:=.type "frame",data:=.dict #[]}) scope.names}:=Done.grow r g rfl rfl;obtain gL:(pushCells (s.heap.push {cls:=.type "frame",data:=.dict #[]}) scope.names).get? s.heap.objs.size=JS ⟨.type "frame",none,.dict #[] 0,#[]⟩:=pushCells_keeps _ _ _ _ (J7 _ rfl);generalize pushCells (s.heap.push {cls:=.type "frame",data:=.dict #[]}) scope.names=H at ok cc g zF gL;generalize hE:newEnv scope s.heap.objs.size mainGlobals (cellsFrom (s.heap.objs.size+1) scope.names []) qual (JS a) code none builtinsNs=env at hQ;obtain ez:env.cells=cellsFrom (s.heap.objs.size+1) scope.names []:=by rw[<-hE];rfl
 obtain lR:env.scope=scope:=by rw[<-hE];rfl
 have tl:env.locals=s.heap.objs.size:=by rw[<-hE];rfl
 obtain nk:env.func.isSome=JQ:=by rw[<-hE];rfl
 have cin:∀n c,(n,c)∈env.cells->H.get? c=JS jv/\s.heap.objs.size+1<=c:=λn c hm=>by rw[ez]at hm;exact(cc n c hm).elim (λz=>nomatch z) id
 have WZ:∀{c},s.heap.objs.size<=c->F.b.B.get? c=none:=λhc=>(ta r hc).2;have st:tT F.b env:=⟨by rw[tl];exact WZ (JK _),λzz n c hc=>WZ (GA (cin n c (mem_of_lookup hc)).2),λzz=>by rw[ez];exact ok.apart⟩;obtain xI:yj f C H env []:=by
  refine⟨by rw[lR];exact hk,by rw[<-hE];rfl,by rw[<-hE];rfl,by rw[tl];exact(ta r (JK _)).1,λn hn=>?_,⟨λzz=>none,⟨_,#[],0,by rw[tl];exact gL,by unfold sb;rw[if_pos nk],rfl,λe he=>absurd he (by simp),λn=>rfl⟩,λx v hv=>by cases hv⟩,λn c hm=>?_,λx v hv=>by cases hv⟩;.rw[ez];exact I2.mp (gO _ _ _ _ (.inl (mem_of_lookup (by rw[<-lR];exact hn))))
  .obtain⟨c1,c2⟩:=cin n c hm;exact⟨(ta r (GA c2)).1,none,c1⟩
 refine JR (au (F:=F) (f:=f) (C:=C) (J:=J) (env:=env) st nk _ (λn v u=>by rw[<-hE];rfl) xs vs ws [] L _ _ (zS.ext zF.ext _ hv) z9 (by rw[lR];exact hs) zF.rel xI λs' d e=>?_);refine JL ?_;obtain fr:∀c∈xH env,s.heap.get? c=none:=λc hc=>by
  rcases jQ hc with rfl|⟨n,hm⟩;.rw[tl];exact tq (JK _)
  .exact tq (GA (cin n c hm).2)
 obtain this:=hQ env s' rfl (zF.fresh d fr) e st fr;rw[<-hE]at this;exact this
theorem zS.drop{h:Im}:∀{vs:List V}{ws:List JM}(n:Nat),zS f C h vs ws->zS f C h (vs.drop n) (ws.drop n)|zo,zY,0,e=>e|[],zo,n+1,e=>by cases e;exact rfl|v::vs,zo,n+1,⟨w,r,e,h1,h2⟩=>by subst e;exact zS.drop n h2
noncomputable def CR(F:Fr)(f:FM)(C:OW)(s:JI)(out:R V)(r:Result)(s':JI):Prop:=match r with|.ok (.ret v)=>PO F rV f C s out v s'|.ok zo=>False|.error e=>PX F f C s out e s'
structure Code(F:Fr)(a:Nat)(args:List V)(J:St)(out:R V):Prop where
 go:∀{A:Around}{f:FM}{C:OW}{s:Shared}{vals:List Value},Rl F.b f C J s.heap->xV F A C s.heap->zS f C s.heap args vals->codeAny (model F.b.prog F.b.w) A (.call (.ref a) ⟨vals,[]⟩) (CR F f C s out) s
noncomputable def Fr.in(F:Fr)(d:Nat):Fr:={F with d:=d}
noncomputable def RV:SR->R V|.ok .next zo J=>.ok .none J|.ok (.ret v) zo J=>.ok v J|.exc e zo J=>.exc e J
set_option tactic.hygienic true in theorem mE{a:Nat}{fd:FD}{args:List V}{out:SR}(hd:F.d=d+1)(z9:F.s=JT)(hf:prog.fn a=JS fd)(hb:uo fd.params fd.dflt args=JS L)(hx:XB (F.in d) L fd.body J out):Code F a args J (RV out):=by
 refine⟨λ{A f C s vals}r ak hv=>?_⟩;obtain⟨⟨o,dt,body,ho,Pu,Q9,Py,Pf,QA,tP,hk,Pw,Pg,heq,pU,P5,dv,ew,QB⟩,eP⟩:=let⟨F1,F2,F3⟩:=ak.ok.fns a fd hf;(⟨F1.at_,F2⟩:_/\_);obtain hlen:=hv.length;unfold uo at hb;split at hb;case isFalse=>cases hb
 rename_i hle;obtain Pq:=ew f C s.heap r.fix r.ay;refine codeAny_call_function (by obtain this:=ak.depth;lia) (r.base _ _ ho) Pu Pw Pg Q9 (tP.keeps r.base) (QB vals s r.base (by lia) (by lia) _ _ _ _ ?_);rewrite[Py];rewrite[Pf];rw[QA];obtain hV:zS f C s.heap (args++fd.dflt.drop (fd.dflt.length-(fd.params.length-args.length))) (vals++dv.drop (fd.dflt.length-(fd.params.length-vals.length))):=by rw[hlen];exact zS.append hv (zS.drop _ Pq)
 obtain hL:fd.params.length=(args++fd.dflt.drop (fd.dflt.length-(fd.params.length-args.length))).length:=by rewrite[JO];rw[Gm];lia
 obtain Xn:=VK (L:=[]) eP hL (λzz zz=>rfl);rw[H9,hb]at Xn;refine NJ (F:=F) r hk hV Xn (Iz.mp P5) λenv zd hE zF xI st fresh=>?_;have lR:env.scope=dt.scope:=by rw[hE];rfl
 have tl:env.frame=JS env.locals:=by rw[hE];rfl
 have nk:env.func.isSome=JQ:=by rw[hE];rfl
 refine⟨ak.nG.keeps zF.rel.base,codeAny_func ?_⟩;obtain U6:=ak.ext zF.ext;obtain⟨l',b1,b2,b3⟩:=U6.frames;obtain⟨mm,⟨oL,es,ep,c1,c2,c3,_⟩,_⟩:=xI.loc;obtain sb:oL.cls=.type "frame":=by rw[c2];unfold sb;rw[if_pos nk]
 have bJ:xV (F.in d) (A.deeper env) C zd.heap:=by
  refine⟨?_,?_,ak.nG,ak.ok,ak.hand,env::l',Fb b1,⟨by rw[xI.kind];decide,⟨env.locals,oL,tl,st.dW,c1,λvs z=>by rw[c3]at z;cases z⟩,b2⟩,λen he K hK=>?_⟩;.obtain this:=ak.depth;show A.depth+1+3*d+20<=_;lia
  .obtain this:=ak.units;show A.units+3+10*d+200<=_;lia
  .rcases JJ.mp he with rfl|z;.replace hK:=yc tl hK;cases hK;exact⟨xI.own,oL,c1,sb⟩
   .exact b3 en z K hK
 have sx:Sx (F.in d) L J env (A.deeper env) f C zd:=⟨⟨zF.rel,xI,bJ⟩,⟨⟨l',Fb b1⟩,tl⟩,st,nk,z9⟩;rw[heq];refine JC (hx.go (by rw[lR];exact pU) sx) (λc yq p=>?_) λx yq p=>?_
 .cases out with
  |ok fl L' zy=>cases fl with|next=>obtain⟨rfl,yg,yk,ze,_⟩:=p;exact⟨yg,yk,Done.fresh zF (⟨ze.ext,ze.rel,ze.gens,ze.os,ze.uM⟩:Done F _ _ _ _ _ _ _ _) fresh,rfl⟩|ret v=>obtain⟨w,yg,yk,rfl,ze,hv⟩:=p;exact⟨yg,yk,Done.fresh zF (⟨ze.ext,ze.rel,ze.gens,ze.os,ze.uM⟩:Done F _ _ _ _ _ _ _ _) fresh,hv⟩
  |exc=>exact p.elim
 .cases out with|ok=>exact p.elim|exc e L' zy=>obtain⟨n,ea,cc,fs,rfl,rfl,wC,yg,yk,ze,we,fn,hi⟩:=p;refine O2 (F:=F.in d) z9 ze.rel (bJ.Y_ ze.ext xI we nk) sx.fr fn wC hi λxy yP kO=>?_;exact⟨n,ea,cc,fs,rfl,rfl,wC,yg,yk,(Done.fresh zF (⟨ze.ext,ze.rel,ze.gens,ze.os,ze.uM⟩:Done F _ _ _ _ _ _ _ _) fresh).trans ⟨yP.ext,yP.rel,yP.gens,yP.os,yP.uM⟩,fn,kO.YR⟩
theorem Code.call{a:Nat}{args:List V}{out:R V}(h:Code F a args J out):Call F (.fn a) args J out:=⟨λr ak hf hv=>by cases hf;exact GP (Ez (h.go r ak hv) λr zz h=>match r,h with|.ok (.ret zo),h=>h|.error zo,h=>h)⟩
theorem SD{a:Nat}{fd:FD}{args:List V}{v:V}(hd:F.d=d+1)(z9:F.s=JT)(hf:prog.fn a=JS fd)(hb:uo fd.params fd.dflt args=JS L)(hx:XB (F.in d) L fd.body J (.ok (.ret v) zN zy)):Call F (.fn a) args J (.ok v zy):=(mE hd z9 hf hb hx).call
theorem S6{a:Nat}{fd:FD}{args:List V}(hd:F.d=d+1)(z9:F.s=JT)(hf:prog.fn a=JS fd)(hb:uo fd.params fd.dflt args=JS L)(hx:XB (F.in d) L fd.body J (.ok .next zN zy)):Call F (.fn a) args J (.ok .none zy):=(mE hd z9 hf hb hx).call
theorem SG{a:Nat}{fd:FD}{args:List V}{v:V}(hd:F.d=d+1)(z9:F.s=JT)(hf:prog.fn a=JS fd)(hb:uo fd.params fd.dflt args=JS L)(hx:XB (F.in d) L fd.body J (.exc v zN zy)):Call F (.fn a) args J (.exc v zy):=(mE hd z9 hf hb hx).call
end
open PySem PySem.W PySem.Calls PyProof.Rows
section
variable{F:Fr}{f:FM}{C:OW}{s:JI}{J zy:St}{A:Ip}{d:Nat}
theorem xV.under{h:Im}{c:Nat}{rest:List JM}(hd:F.d=d+1)(a:xV F A C h):xV (F.in d) (A.under (.builtin "type.__call__" ⟨.ref c::rest,[]⟩)) C h:=by
 obtain hw:(Code.builtin "type.__call__" ⟨.ref c::rest,[]⟩).weight=1:=by kernel_rfl
 obtain hu:(Code.builtin "type.__call__" ⟨.ref c::rest,[]⟩).cUnits=1:=by kernel_rfl
 obtain⟨l,a1,a2,a3⟩:=a.frames;refine⟨?_,?_,a.nG,a.ok,a.hand,l,?_,a2,a3⟩;.obtain this:=a.depth;show A.depth+_+3*d+20<=_;lia
 .obtain this:=a.units;show A.units+_+10*d+200<=_;lia
 .show pushEnvs [] A.frames=JS l;exact a1
theorem Z8{fr:List J0}{f':FM}{zm:OW}{s':JI}(x:Done (F.in d) fr f C s zy f' zm s'):Done F fr f C s zy f' zm s':=⟨x.ext,x.rel,x.gens,x.os,x.uM⟩
theorem Rb(r:Rl F.b f C J s.heap)(c:Nat):Done F [] f C s (J++[.inst c []]) (t9 f J.length (s.heap.objs.size+1)) (ows C [s.heap.objs.size+1,s.heap.objs.size] J.length) {s with heap:=(s.heap.push emptyDict).push (instObj c s.heap.objs.size)}:=by
 obtain hz:(s.heap.push emptyDict).objs.size=s.heap.objs.size+1:=Gx ..;have g1:((s.heap.push emptyDict).push (instObj c s.heap.objs.size)).get? (s.heap.objs.size+1)=JS (instObj c s.heap.objs.size):=by rw[<-hz];exact J7 _ rfl
 obtain g2:((s.heap.push emptyDict).push (instObj c s.heap.objs.size)).get? s.heap.objs.size=JS emptyDict:=J6 _ (J7 _ rfl);refine pq (s':={s with heap:=(s.heap.push emptyDict).push (instObj c s.heap.objs.size)}) r (λc o e=>J6 _ (J6 _ e)) rfl rfl (λx hx=>?_) ⟨tE JH,s.heap.objs.size,λzz=>none,tE (J2 _ JH),IP (Hq _),g1,⟨_,#[],0,g2,rfl,λe he=>absurd he (by simp),λzz=>rfl,JK _⟩,λx=>⟨λzz=>rfl,λv e=>nomatch e⟩⟩;rcases JJ.mp hx with rfl|hx;.exact⟨tq (GC _),_,g1⟩
 .rw[JP.mp hx];exact⟨tq (JK _),_,g2⟩
theorem SI{c fi:Nat}{args:List V}(hd:F.d=d+1)(hc:prog.cls c=JS (fi,JT))(h:Code (F.in d) fi (.ref J.length::args) (J++[.inst c []]) (.ok .none zy)):Call F (.cl c) args J (.ok (.ref J.length) zy):=by refine⟨λ{A f C s xY vals}r ak hf hv=>?_⟩;cases hf;obtain⟨mk,hi,hb⟩:=ak.ok.cls c fi hc s.heap r.base;obtain zF:=Rb (F:=F) r c;refine GP ?_;obtain⟨eC,g,dr,t,os⟩:=s;refine make_core mk hi hb (.inl (by simp)) ?_;refine Ez (h.go (vals:=.ref (eC.objs.size+1)::vals) zF.rel ((ak.ext zF.ext).under hd) ⟨_,_,rfl,⟨_,t8,rfl⟩,zS.ext zF.ext _ hv⟩) λr' s' z=>?_;match r',z with|.ok (.ret v),⟨f',zm,ze,lQ⟩=>exact⟨lQ,f',zm,zF.trans (Z8 ze),_,ze.ext.wG _ _ t8,rfl⟩|.error e,z=>exact z.elim
end
section
variable{prog:Program}{w:World}{A:Ip}{E:JM->JI->Prop}{R:Result->JI->Prop}{h:Im}{g:Array GenState}{d:Drawn}{t:Nat}{os:OsState}
variable{nm q:Str}{zP N:J0}{bs bm u7:List JM}{nz:Bool}{sn:List Str}{sub:List JM}{ab:Bool}{col:Option Bool}{dd:Option J0}{k0 k1 k2 k3 k5:Option JM}{B newId nX:String}
theorem RH(F:ExcBaseFacts B newId nX u7)(T:mT u7 bm){rest:List JM}(hC:h.get? zP=JS (excClassObj nm q zP N bs bm nz sn sub ab col dd k0 k1 k2 k3 k5 newId))(hq:R (.ok (.ret (.ref (h.objs.size+1)))) ⟨(h.push {cls:=.type "tuple",data:=.seq rest.toArray}).push {cls:=.ref zP,data:=.fields #[.ref h.objs.size,.none,.none,.none,.bool JT,.none]},g,d,t,os⟩)(nf:rest.length<=sizeLine):codeAny (model prog w) A (.builtin newId ⟨.ref zP::rest,[]⟩) R ⟨h,g,d,t,os⟩:=by
 obtain Jw:=F.ends;obtain Q4:(HS zP::bm).contains (.type B)=JQ:=by rewrite[Iy];rewrite[T _ _ F.hasB];rw[GZ]
 obtain Q5:(HS zP::bm).contains (.type "AttributeError")=JT:=by rewrite[Iy];rw[T _ _ F.noAttr];rfl
 obtain Q2:(HS zP::bm).contains (.type "NameError")=JT:=by rewrite[Iy];rw[T _ _ F.noName];rfl
 refine PySem.codeAny_builtinAt F.entry ?_;unfold Builtin.«BaseException.__new__»;refine Ed ?_;show PySem.wpAt _ _ _ (stack>>=_) _ _ _;refine Ed (PySem.wpAt_stack λp below=>FN ?_);wp_walk;refine FN ?_;rw[F.owner];repeat(first|with_reducible refine wpAny_madeHere_exc F.canon hC ?_|with_reducible refine Gw hC ?_|(with_reducible refine FK hC ?_;first|rw[Q4]at⊢|rw[Q5]at⊢|rw[Q2]at⊢)|wp_step)
 show R _ _;rw[Gx];exact hq
theorem RF(F:ExcBaseFacts B newId nX u7)(T:mT u7 bm){mN:Str->Option JM}{rest:List JM}{fI:J0}{oI:Obj}{Q:Fin->JI->Prop}(hC:h.get? zP=JS (excClassObj nm q zP N bs bm nz sn sub ab col dd k0 k1 k2 k3 k5 newId))(hn:h.Ns N mN)(hi:mN "__init__"=JS (.ref fI))(el:h.get? fI=JS oI)(lb:oI.cls=.type "function")(nf:rest.length<=sizeLine)(hq:∀h' e,EZ h h' e (.ref zP) rest->wpAny (model prog w) A (call (.ref fI) (.ref e::rest)) (λr s'=>r=.none/\Q (.done (.ret (.ref e))) s') E ⟨h',g,d,t,os⟩):wpAny (model prog w) A (Builtin.«type.__call__» ⟨.ref zP::rest,[]⟩) Q E ⟨h,g,d,t,os⟩:=by
 repeat(first|with_reducible refine Gw hC ?_|with_reducible refine wpAny_madeBy_exc hC ?_|wp_step)
 refine codeAny_call_builtin_code (F7 _ F.quiet) (wpAny_check_new_subU F (T _ _ F.hasB) .base hC ?_);refine RH F T hC ?_ nf;show wpAny _ _ _ _ _ _;obtain fE:=J6 {cls:=.ref zP,data:=.fields #[.ref h.objs.size,.none,.none,.none,.bool JT,.none]} (J6 {cls:=.type "tuple",data:=.seq rest.toArray} hC);obtain Pl:=J6 {cls:=.ref zP,data:=.fields #[.ref h.objs.size,.none,.none,.none,.bool JT,.none]} (J6 {cls:=.type "tuple",data:=.seq rest.toArray} el);obtain PJ:((h.push {cls:=.type "tuple",data:=.seq rest.toArray}).push {cls:=.ref zP,data:=.fields #[.ref h.objs.size,.none,.none,.none,.bool JT,.none]}).Ns N mN:=let⟨o,es,ep,e,r⟩:=hn;⟨o,es,ep,J6 _ (J6 _ e),r⟩;obtain y_:((h.push {cls:=.type "tuple",data:=.seq rest.toArray}).push {cls:=.ref zP,data:=.fields #[.ref h.objs.size,.none,.none,.none,.bool JT,.none]}).get? (h.objs.size+1)=JS {cls:=.ref zP,data:=.fields #[.ref h.objs.size,.none,.none,.none,.bool JT,.none]}:=by heap_get
 obtain Q3:(HS zP::bm).contains (.ref zP)=JQ:=by simp
 unfold isInstance;repeat(first|with_reducible refine Gw y_ ?_|(with_reducible refine FK fE ?_;rw[Q3])|wp_step)
 show wpAny _ _ (typeLookup (.ref zP) _) _ _ _;rw[typeLookup_eq];refine JR (wpAny_mroOf_exc fE ?_);rw[lookupAlong_cons];refine JR (wpAny_classOwn_exc fE PJ ?_);rw[hi];refine JL ?_;refine JE (JR ?_);unfold bindSpecial;refine JR (Ey (T:="function") ⟨_,Pl,lb⟩ ?_);rw[if_pos (by decide)];refine JL (JR (JC (hq _ (h.objs.size+1) ⟨λb o hb=>J6 _ (J6 _ hb),F_ (GC _),h.objs.size,y_,F_ (JK _),?_⟩) (λr s' hr=>?_) λzz zz x=>x));.exact J6 _ (Heap.get?_push_at rfl rfl)
 .obtain⟨rfl,hQ⟩:=hr;wp_walk;exact hQ
theorem RJ(F:ExcBaseFacts B newId nX u7)(T:mT u7 bm){mN:Str->Option JM}{rest:List JM}{fI:J0}{oI:Obj}{Q:JM->JI->Prop}(hC:h.get? zP=JS (excClassObj nm q zP N bs bm nz sn sub ab col dd k0 k1 k2 k3 k5 newId))(hn:h.Ns N mN)(hi:mN "__init__"=JS (.ref fI))(el:h.get? fI=JS oI)(lb:oI.cls=.type "function")(nf:rest.length<=sizeLine)(hq:∀h' e,EZ h h' e (.ref zP) rest->wpAny (model prog w) (A.under (.builtin "type.__call__" ⟨.ref zP::rest,[]⟩)) (call (.ref fI) (.ref e::rest)) (λr s'=>r=.none/\Q (.ref e) s') E ⟨h',g,d,t,os⟩):wpAny (model prog w) A (call (.ref zP) rest) Q E ⟨h,g,d,t,os⟩:=by
 obtain f1:=tc_lookup;obtain f2:=tc_bind (.ref zP);obtain hT:(⟨h,g,d,t,os⟩:JI).TypeIs (.ref zP) "type":=⟨_,hC,rfl⟩;refine GP (codeAny_of_tree ?_);show wpAny _ _ (callAny (.ref zP) _) _ _ _;repeat(any_goals(first|assumption|with_reducible refine Gw hC ?_|wp_step))
 refine⟨rfl,?_⟩;refine codeAny_call_builtin_at (F7 _ (by decide+kernel)) entry_typeCall (wpAny_check_type_call_sub hC (RF F T hC hn hi el lb nf λh' e hm=>?_));exact hq h' e hm
end
section
variable{F:Fr}{f:FM}{C:OW}{s:JI}{J zy:St}{A:Ip}{d:Nat}
theorem SH{c fi:Nat}{args:List V}(hd:F.d=d+1)(hc:prog.cls c=JS (fi,JQ))(hl:args.length<=1000)(h:Code (F.in d) fi (.ref J.length::args) (J++[.exc c JT []]) (.ok .none zy)):Call F (.cl c) args J (.ok (.ref J.length) zy):=by refine⟨λ{A f C s xY vals}r ak hf hv=>?_⟩;cases hf;obtain⟨nm,q,N,bs,bm,u7,nz,sn,sub,ab,col,dd,k0,k1,k2,k3,k5,T,newId,nX,mN,fo,FX,ST,hc,hn,hi,hf,lb,jB⟩:=ak.ok.exc c fi hc;obtain⟨eC,g,dr,t,os⟩:=s;refine RJ FX ST (r.base _ _ hc) (hn.keeps r.base) hi (r.base _ _ hf) lb (by rw[hv.length];exact J4 hl (by decide)) λh' e m=>?_;obtain⟨tt,g1,g2,g3⟩:=m.there;obtain hB:bW F.b.B c:=⟨_,_,hc,rfl,by rewrite[Iy];rewrite[jB];rw[GZ],by rewrite[Iy];rewrite[ST _ _ FX.hasBase];rw[GZ],rfl⟩;have zF:Done F [] f C ⟨eC,g,dr,t,os⟩ (J++[.exc c JT []]) _ _ ⟨h',g,dr,t,os⟩:=pq (s':=⟨h',g,dr,t,os⟩) (a:=e) (l:=[e]) r m.keeps rfl rfl (λx hx=>by rw[JP.mp hx];exact⟨m.new,_,g1⟩) ⟨tE JH,none,_,g1,⟨by simp,λzz=>rfl,hB⟩,rfl⟩;refine GP (Ez (h.go (vals:=.ref e::vals) zF.rel ((ak.ext zF.ext).under hd) ⟨_,_,rfl,⟨_,t8,rfl⟩,zS.ext zF.ext _ hv⟩) λr' s' z=>?_);match r',z with|.ok (.ret v),⟨f',zm,ze,lQ⟩=>exact⟨lQ,f',zm,zF.trans (Z8 ze),_,ze.ext.wG _ _ t8,rfl⟩|.error e,z=>exact z.elim
end
open PySem PySem.W PySem.Calls PyProof.Rows
theorem passes(self:JM){l:List JM}(e:ki l=JQ):refuseLoop self "__setattr__" l=pure ()/\l.contains (.type "object")=JQ:=by
 induction l with
 |nil=>exact Hr e
 |cons v r ih=>
  rcases(Iq _ _).mp e with e|e;.rw[eq_of_beq e];exact⟨FZ.passes self,by decide⟩
  rcases(Iq _ _).mp e with e|e;.rw[eq_of_beq e];exact⟨PySem.F.store_ValueError.passes self,by decide⟩
  obtain⟨e1,e2⟩:=zh e;obtain⟨i1,i2⟩:=ih e2;rewrite[eq_of_beq e1];rewrite[refuseLoop_ref];rewrite[Iy];rewrite[i2];rw[GZ];exact⟨i1,rfl⟩
section
variable{F:Fr}{K:Frag}{A:Ip}{f:FM}{C:OW}{J zt zb yO:St}{s:JI}{h:Im}{L:Loc}
theorem Nw{es:Array Ig}{name:Str}{w:JM}{o:Obj}{ep:Nat}(hd:o.data=.dict es ep)(e:nsFind es name=JS w):lookIn name o=JS (JS w):=by unfold lookIn;rw[hd];unfold nsFind findBy at e;rw[<-F6]at e;obtain⟨en,h1,h2⟩:=JB.mp e;simp only[h1];rw[h2]
theorem Nx{es:Array Ig}{name:Str}{o:Obj}{ep:Nat}(hd:o.data=.dict es ep)(hk:StrKeys es)(e:nsFind es name=none):lookIn name o=JS none:=by unfold lookIn;rw[hd];unfold nsFind findBy at e;rw[<-F6]at e;simp only[Option.map_eq_none_iff.mp e];rw[if_neg];rewrite[Bool.not_eq_true];rw[F0];intro en he;obtain⟨n,t,q⟩:=hk en (by simpa using he);simp[En,q]
noncomputable def kH(f:FM)(C:OW)(h:Im)(fs:List (Nat×V))(od:Option Obj):Prop:=∀x,(∀v,lk x fs=JS v->X2 λw o=>C3 (od=JS o) (lookIn (nm x) o=JS (JS w)) (VR f C h v w))/\(lk x fs=none->∀o,od=JS o->lookIn (nm x) o=JS none)
theorem ownAt{dx:J0}{n:Nat}{m:Str->Option JM}{fs:List (Nat×V)}(hn:r4 h dx n m)(hf:FR f C h fs m):∃o,h.get? dx=JS o/\kH f C h fs (JS o):=by
 obtain⟨o,es,ep,e1,e2,e3,e4,_⟩:=hn;refine⟨o,e1,λx=>⟨λv q=>?_,λq o' e=>?_⟩⟩;.obtain⟨w,h1,h2⟩:=(hf x).2 v q;exact⟨w,o,rfl,Nw e2 ((e4 _).trans h1),h2⟩
 .cases e;exact Nx e2 e3 ((e4 _).trans ((hf x).1 q))
theorem iz{n c:Nat}{fs:List (Nat×V)}(r:Rl F.b f C J h)(hn:J[n]?=JS (.inst c fs)):X3 λa ox od=>C3 (f n=JS a) (InstAt h a ox c (JS od)) (kH f C h fs (JS od)):=by obtain⟨a,fa,w,dx,m,w',ne,g,hm,hf⟩:=r.objs n _ hn;obtain⟨o,ho,hx⟩:=ownAt hm hf;exact⟨a,_,o,fa,⟨g,rfl,rfl,ho⟩,hx⟩
theorem RK{n c:Nat}{t:Bool}{fs:List (Nat×V)}(r:Rl F.b f C J h)(hn:J[n]?=JS (.exc c t fs)):X3 λa ox od=>C3 (f n=JS a) (InstAt h a ox c od) (kH f C h fs od):=by obtain⟨a,fa,w,wO,vs,g,sz,q⟩:=r.objs n _ hn;cases wO with|none=>obtain q:fs=[]:=q;subst q;exact⟨a,_,none,fa,⟨g,rfl,rfl,trivial⟩,λx=>⟨λv e=>(nomatch e),λzz o e=>(nomatch e)⟩⟩|some dx=>obtain⟨w',ne,m,hm,hf⟩:=q;obtain⟨o,ho,hx⟩:=ownAt hm hf;exact⟨a,_,JS o,fa,⟨g,rfl,rfl,ho⟩,hx⟩
theorem handed{v:V}{w:JM}(e:VR f C h v w):handedIn w=JQ:=by cases v with|none|bool b|fn a|cl a|ty t=>cases e;rfl|int i|str i=>obtain⟨t,rfl⟩:=e;rfl|tup vs=>obtain⟨a,_,_,_,rfl,_⟩:=e;rfl|ref n=>obtain⟨a,_,rfl⟩:=e;rfl|bi i=>cases e;cases i<;>decide+kernel
theorem findObj_own{c:J0}{od:Option Obj}{cd:ClassData}{o:Obj}{name:Str}{w:JM}(hc:clsIn K c=JS cd)(hd:cd.hasDict=JQ)(hn:findIn K (.ref c) name=JS none)(ho:od=JS o)(hl:lookIn name o=JS (JS w)):findObj K c od name=JS (.value w):=by
 subst ho;obtain this:FF cd (JS o) name=JS (JS w):=by unfold FF;rw[if_pos hd];exact hl
 unfold findObj;rewrite[hc];rw[hn];show(FF cd (JS o) name).bind _=_;rw[this];rfl
theorem QX{x zP:J0}{ox:Obj}{od:Option Obj}{name:Str}{v:JM}{expr:Bool}{prog:Program}{w:World}{Q:JM->JI->Prop}{E:JM->JI->Prop}(X:K.In s.heap)(I:InstAt s.heap x ox zP od)(e_:findIn K (.ref zP) "__getattribute__"=JS (JS (.builtin "BaseException.__getattribute__")))(hb:mroIn K zP (.type "BaseException")=JS JQ)(hk:findIn K (.ref zP) "__getattr__"=JS none)(hf:findObj K zP od name=JS (.value v))(hh:handedIn v=JQ)(h:Q v {s with toks:=s.toks+1}):wpAny (model prog w) A (getAttr (.ref x) name expr) Q E s:=by
 obtain FX:=PySem.F.excAttr_ValueError;obtain⟨eY,g,d,t,os⟩:=s;obtain L0:=I.type (M:=model prog w);obtain L1:=looks_findIn (M:=model prog w) X e_;obtain L2:=looks_findIn (M:=model prog w) X hk;obtain L3:=looks_find (M:=model prog w) X I hf;obtain sub:Looks (model prog w) eY (isInstance (.ref x) (.type "BaseException")) JQ:=L0.andThen (looks_mroIn X hb);obtain Ow:(expr&&onTheHeap (G8 "BaseException.__getattribute__"))=JT:=by cases expr<;>rfl
 obtain lO:(G8 "BaseException.__getattribute__"==G8 "object.__getattribute__")=JT:=by decide+kernel
 unfold getAttr getAttrBy;refine JR (wpAny_mkText (JE (JR (L0.at (JR (L1.at ?_))))));dsimp only;rewrite[lO];rewrite[GS];rw[if_neg IZ];unfold getAttrByItsOwn;refine JR (m:=hookBefore (.ref zP)) (L2.at ?_);refine JR (wpAny_attempt (JE ?_));unfold callGetattribute;rewrite[Ow];rw[if_neg IZ];unfold boundAndCalled;rw[FX.ga.bind (.ref x)];refine JR (JL (GP ?_));refine Gg FX.ga.plain PySem.F.entry_bexc_ga (@check_slot (model prog w) _ _ _ "BaseException.__getattribute__" "BaseException" "__getattribute__" (.ref x) [.str name t] [] _ (by decide+kernel) (by decide+kernel) sub (PySem.F.args_bexc_ga _ _) ?_);refine JR (JL (JR (JL (JR (L0.at (JR (L3.at ?_)))))));refine JL ?_;show wpAny _ _ (handedOut v) _ _ _;rw[handedOut_of hh];exact JL h
noncomputable def xi(c x:Nat):Bool:=(prog.cls c).isSome&&(prog.zl c x).isNone
theorem bB(fk:Facts F.b){n c x:Nat}{a:J0}{ox:Obj}{od:Option Obj}{fs:List (Nat×V)}{v:V}{expr:Bool}(hX:F.b.X.contains x=JQ)(r:Rl F.b f C J s.heap)(I:InstAt s.heap a ox c od)(O:kH f C s.heap fs od)(hk:xi c x=JQ)(hl:lk x fs=JS v):W F A (getAttr (.ref a) (nm x) expr) rV f C s (.ok v J):=by
 obtain⟨k1,k2⟩:=zh hk;obtain k2:=Ht.mp k2;obtain⟨w,o,ho,eT,qi⟩:=(O x).1 v hl;obtain⟨cd,hc,hd,_⟩:=fk.cd c k1;have X':=fk.yQ.keeps r.base;have fo:=findObj_own hc hd (fk.dF c x k1 hX k2) ho eT;rcases fk.ga c k1 with g|⟨g,gb⟩;.exact get_value X' I g fo (handed qi) (xp r qi)
 .exact QX X' I g gb (fk.gx c k1) fo (handed qi) (xp r qi)
theorem YH(fk:Facts F.b){n c x:Nat}{fs:List (Nat×V)}{v:V}{ov:JM}{expr:Bool}(ho:J[n]?=JS (.inst c fs))(hk:xi c x=JQ)(hl:lk x fs=JS v)(hX:F.b.X.contains x=JQ)(r:Rl F.b f C J s.heap)(hv:VR f C s.heap (.ref n) ov):W F A (getAttr ov (nm x) expr) rV f C s (.ok v J):=by obtain⟨a,fa,rfl⟩:=hv;obtain⟨a',ox,od,yt,I,O⟩:=iz r ho;replace yt:=yc fa yt;cases yt;exact bB fk (n:=n) hX r I O hk hl
theorem QW(fk:Facts F.b){n c x:Nat}{t:Bool}{fs:List (Nat×V)}{v:V}{ov:JM}{expr:Bool}(ho:J[n]?=JS (.exc c t fs))(hk:xi c x=JQ)(hl:lk x fs=JS v)(hX:F.b.X.contains x=JQ)(r:Rl F.b f C J s.heap)(hv:VR f C s.heap (.ref n) ov):W F A (getAttr ov (nm x) expr) rV f C s (.ok v J):=by obtain⟨a,fa,rfl⟩:=hv;obtain⟨a',ox,od,yt,I,O⟩:=RK r ho;replace yt:=yc fa yt;cases yt;exact bB fk (n:=n) hX r I O hk hl
theorem zM{e:M}{x n c:Nat}{fs:Loc}{v:V}(he:E F L e J (.ok (.ref n) zt))(ho:zt[n]?=JS (.inst c fs))(hs:xi c x=JQ)(hl:lk x fs=JS v):E F L (.attr e x) J (.ok v zt):=Yu he λhX fk r hv=>YH fk ho hs hl hX r hv
theorem RX{e:M}{x n c:Nat}{t:Bool}{fs:Loc}{v:V}(he:E F L e J (.ok (.ref n) zt))(ho:zt[n]?=JS (.exc c t fs))(hs:xi c x=JQ)(hl:lk x fs=JS v):E F L (.attr e x) J (.ok v zt):=Yu he λhX fk r hv=>QW fk ho hs hl hX r hv
end
open PySem PySem.W PySem.Calls PyProof.Rows Builtin Builtin.ObjectAttr
section
variable{M:Model}{A:Ip}{E:JM->JI->Prop}{s:JI}
theorem cD{d:J0}{n:Nat}{m:Str->Option JM}{name:Str}{tk:Tok}{v:JM}{Q:Fin->JI->Prop}(hn:r4 s.heap d n m)(hz:n<=u5)(h:∀h' s9,r4 h' d (if(m name).isSome then n else n+1) (λx=>if x=name then JS v else m x)->IC d s.heap h'->Q (.done (.ret .none)) {s with heap:=h',toks:=s9}):wpAny M A (storeInDict d (.str name tk) name v) Q E s:=by obtain⟨o,es,ep,e1,e2,e3,e4,e5⟩:=hn;unfold storeInDict newKeyGuard;refine JR (JL (JR (Um e1 e2 e3 λh' o' uN yW g1 g2 g3 g4 g5 g6 hs=>?_)));rw[e4]at g6;obtain sz:uN.size<=if(m name).isSome then n else n+1:=J4 g6 (by split<;>lia);refine JR (wpAny_lookBehind g1 (by rw[g3];refine pastItsLine_dict ?_;obtain this:sizeLine=2^24:=rfl;have:u5=1000000:=rfl;split at sz<;>lia) ?_);exact JL (h h' _ ⟨o',uN,yW,g1,g3,g4,λx=>by rewrite[g5];rw[e4],sz⟩ hs)
end
section
variable{prog:Program}{w:World}{A:Ip}{s:JI}{K:Frag}{x zP:J0}{ox:Obj}{od:Option Obj}{name:Str}{v:JM}{cd:ClassData}
theorem N1{tk:Tok}{R:Result->JI->Prop}(X:K.In s.heap)(I:InstAt s.heap x ox zP od)(hc:clsIn K zP=JS cd)(hp:ki cd.mro=JQ)(ne:cd.mro.isEmpty=JT)(hn:findIn K (.ref zP) name=JS none)(h:wpAny (model prog w) A.in1 (storeInOwnDict (.ref x) (.ref zP) (.str name tk) name v JT) (λfin s'=>match fin with|.done f=>R (.ok f) s'|.again c'=>c'.quiet=JQ/\codeAny (model prog w) A c' R s') (λe s'=>R (.error e) s') s):codeAny (model prog w) A (.call (.builtin "object.__setattr__") ⟨[.ref x,.str name tk,v],[]⟩) R s:=by obtain SF:=FZ;obtain⟨PG,eM⟩:=passes (.ref x) hp;obtain sub:Looks (model prog w) s.heap (isInstance (.ref x) (.type "object")) JQ:=I.type.andThen (looks_mroIn X (by unfold mroIn;rewrite[hc];rewrite[HM];rewrite[if_neg (by rw[ne];decide)];rw[eM]));refine Gg SF.slot.plain SF.entry (@check_slot (model prog w) _ _ s "object.__setattr__" "object" "__setattr__" (.ref x) [.str name tk,v] [] _ SF.kind SF.split sub (SF.args (.ref x) (.str name tk) v) ?_);obtain hm:Looks (model prog w) s.heap (mroOf (.ref zP)) cd.mro:=(looks_clsIn X hc).andThen .now;rewrite[osa_eq];rw[refuse_eq];refine JR (JR (I.type.here (JR (hm.here ?_))));rw[PG];exact JL (JR (I.type.here (JR ((looks_findIn X hn).here (JR (JL h))))))
theorem N'{ox:Obj}{Q:Option J0->JI->Prop}{E:JM->JI->Prop}{M:Model}(X:K.In s.heap)(I:InstAt s.heap x ox zP od)(hc:clsIn K zP=JS cd)(hd:cd.hasDict=JQ)(h1:∀dx,ox.dict=JS dx->Q (JS dx) s)(h2:ox.dict=none->Q (JS s.heap.objs.size) {s with heap:=(s.heap.push {cls:=.type "dict",data:=.dict #[]}).update x λo=>{o with dict:=JS s.heap.objs.size}}):wpAny M A (instanceDict x JQ) Q E s:=by obtain⟨hx,wM,PQ,_⟩:=I;obtain⟨oc,N6,WU,N0⟩:=ox;dsimp only at wM;subst wM;unfold instanceDict;refine JR (GO hx (JR ((looks_clsIn X hc).here ?_)));rw[hd];cases N6 with|some dx=>exact JL (h1 dx rfl)|none=>have Ou:(s.heap.push {cls:=.type "dict",data:=.dict #[]}).get? x=JS ⟨.ref zP,none,WU,N0⟩:=J6 _ hx;dsimp only;rewrite[if_neg (by decide)];rw[if_neg (by simp[typeHasDict])];cases WU<;>first|exact JR (wpAny_alloc' (JR (wpAny_update' Ou (JL (h2 rfl)))))|exact Hr PQ
end
theorem VS(x:Nat)(v:V):∀L:Loc,(st x v L).length=if(lk x L).isSome then L.length else L.length+1|[]=>rfl|(y,w)::r=>by unfold st lk;cases q:JG x y with|true=>rfl|false=>show(st x v r).length+1=if(lk x r).isSome=JQ then r.length+1 else r.length+1+1;rw[VS x v r];split<;>rfl
section
variable{F:Fr}{A:Ip}{f:FM}{C:OW}{J zt zb yO:St}{s:JI}{h h':Im}{L:Loc}
theorem FR.isSome{fs:List (Nat×V)}{m:Str->Option JM}(e:FR f C h fs m)(x:Nat):(m (nm x)).isSome=(lk x fs).isSome:=by cases q:lk x fs with|none=>rw[(e x).1 q];rfl|some v=>obtain⟨w,h1,_⟩:=(e x).2 v q;rw[h1];rfl
theorem FR.put{fs:List (Nat×V)}{m:Str->Option JM}{x:Nat}{v:V}{w:JM}(e:FR f C h fs m)(hv:VR f C h v w):FR f C h (st x v fs) (λy=>if y=nm x then JS w else m y):=λy=>by
 rw[vI];by_cases q:y=x;.subst q;rw[if_pos rfl];exact⟨λz=>(nomatch z),λu z=>by cases z;exact⟨w,if_pos rfl,hv⟩⟩
 .rw[if_neg q];exact⟨λz=>(if_neg (iV q)).trans ((e y).1 z),λu z=>let⟨w',h1,h2⟩:=(e y).2 u z;⟨w',(if_neg (iV q)).trans h1,h2⟩⟩
theorem fu{n:Nat}{a dx:J0}{fs:List (Nat×V)}{m:Str->Option JM}{x:Nat}{v:V}{wv:JM}{tk:Nat}{o':O}(z9:F.s=JT)(r:Rl F.b f C J s.heap)(fa:f n=JS a)(wd:C dx=JS n)(hf:FR f C s.heap fs m)(hv:VR f C s.heap v wv)(hn:r4 h' dx (if(m (nm x)).isSome then fs.length else fs.length+1) (λy=>if y=nm x then JS wv else m y))(hs:IC dx s.heap h')(ho:r4 h' dx (st x v fs).length (λy=>if y=nm x then JS wv else m y)->FR f C h' (st x v fs) (λy=>if y=nm x then JS wv else m y)->tV F.b.w.params F.b.B f C h' n o' a):Done F [] f C s (J.set n o') f C {s with heap:=h',toks:=tk}:=by have al:∃o,h'.get? dx=JS o:=let⟨_,_,_,q,_,_,_,_⟩:=hn;⟨_,q⟩;obtain ex:∀{fr},Ext fr f C s.heap f C h':=Ext.write hs wd al;rw[hf.isSome,<-VS x v]at hn;exact⟨ex,r.write hs wd al fa (ho hn (FR.put (FR.yn (ex (fr:=[])).v hf) (VR.ext (ex (fr:=[])) _ hv))),rfl,rfl,λq=>by replace q:=z9.symm.trans q;cases q⟩
theorem cH(fk:Facts F.b){c x:Nat}{a:J0}{ox:Obj}{od:Option Obj}{vv:JM}{Q:Unit->JI->Prop}(hX:F.b.X.contains x=JQ)(r:Rl F.b f C J s.heap)(hk:xi c x=JQ)(I:InstAt s.heap a ox c od)(h1:∀dx,ox.dict=JS dx->wpAny (model F.b.prog F.b.w) A.in1 (storeInDict dx (.str (nm x) s.toks) (nm x) vv) (λfin s'=>fin=.done (.ret .none)/\Q () s') (λzz zz=>False) {s with toks:=s.toks+1})(h2:ox.dict=none->wpAny (model F.b.prog F.b.w) A.in1 (storeInDict s.heap.objs.size (.str (nm x) s.toks) (nm x) vv) (λfin s'=>fin=.done (.ret .none)/\Q () s') (λzz zz=>False) {s with heap:=(s.heap.push {cls:=.type "dict",data:=.dict #[]}).update a λo=>{o with dict:=JS s.heap.objs.size},toks:=s.toks+1}):wpAny (model F.b.prog F.b.w) A (setAttr (.ref a) (nm x) vv) Q (λzz zz=>False) s:=by
 obtain⟨k1,k2⟩:=zh hk;obtain k2:=Ht.mp k2;obtain X':=fk.yQ.keeps r.base;obtain⟨cd,hc,hd,hp,wU⟩:=fk.cd c k1;refine set_plain X' I (fk.sa c k1) (N1 (s:={s with toks:=s.toks+1}) X' I hc hp wU (fk.dF c x k1 hX k2) ?_);unfold storeInOwnDict ownDictForStores;refine JR (JL ?_);rw[if_neg (by simp)];refine JR (N' (s:={s with toks:=s.toks+1}) X' I hc hd (λdx e=>?_) λe=>?_);.exact JC (h1 dx e) (λfin s'⟨q,z⟩=>by subst q;exact z) λzz zz z=>z
 .exact JC (h2 e) (λfin s'⟨q,z⟩=>by subst q;exact z) λzz zz z=>z
theorem V_{n c x:Nat}{fs:List (Nat×V)}{v:V}(z9:F.s=JT)(hn:J[n]?=JS (.inst c fs))(hk:xi c x=JQ)(hs:short fs=JQ):kG F (.ref n) x v J (J.set n (.inst c (st x v fs))):=λ{A f C s ov vv}hX fk r ho hv=>by
 obtain⟨a,fa,rfl⟩:=ho;obtain⟨a',yt,w,dx,m,wd,ne,g,hm,hf⟩:=r.objs n _ hn;replace yt:=yc fa yt;cases yt;obtain⟨od,_,_,eL,_⟩:=id hm;refine cH fk hX r hk (od:=JS od) ⟨g,rfl,rfl,eL⟩ (λZ4 q=>?_) λq=>by cases q
 cases q;refine cD (s:={s with toks:=s.toks+1}) hm (JA hs) λh' s9 pW hs=>⟨rfl,f,C,fu z9 r fa wd hf hv pW hs λz1 z2=>?_,trivial⟩;exact⟨w,dx,_,wd,ne,(hs.2 a (Hk ne)).trans g,z1,z2⟩
theorem Le{n c x:Nat}{t:Bool}{fs:List (Nat×V)}{v:V}(z9:F.s=JT)(hn:J[n]?=JS (.exc c t fs))(hk:xi c x=JQ)(hs:short fs=JQ):kG F (.ref n) x v J (J.set n (.exc c t (st x v fs))):=λ{A f C s ov vv}hX fk r ho hv=>by
 obtain⟨a,fa,rfl⟩:=ho;obtain⟨a',yt,w,wO,vs,g,sz,hq⟩:=r.objs n _ hn;replace yt:=yc fa yt;cases yt;cases wO with
 |some dx=>
  obtain⟨wd,ne,m,hm,hf⟩:=hq;obtain⟨od,_,_,eL,_⟩:=id hm;refine cH fk hX r hk (od:=JS od) ⟨g,rfl,rfl,eL⟩ (λZ4 q=>?_) λq=>by cases q
  cases q;refine cD (s:={s with toks:=s.toks+1}) hm (JA hs) λh' s9 pW hs=>⟨rfl,f,C,fu z9 r fa wd hf hv pW hs λz1 z2=>?_,trivial⟩;exact⟨w,JS dx,vs,(hs.2 a (Hk ne)).trans g,sz,wd,ne,_,z1,z2⟩
 |none=>
  have hq:fs=[]:=hq;subst hq;refine cH fk hX r hk (od:=none) ⟨g,rfl,rfl,trivial⟩ (λZ4 q=>by cases q) λzz=>?_;have gr:=xE s.heap emptyDict;have gd:(s.heap.push emptyDict).get? s.heap.objs.size=JS emptyDict:=J7 _ rfl;have fresh:s.heap.get? s.heap.objs.size=none:=tq (JK _);obtain⟨WV,nB⟩:=ta r (JK s.heap.objs.size);have na:s.heap.objs.size≠a:=G_ (I7 g);obtain⟨qU,og⟩:=(r.grow gr).YE (m:=n) (l:=[s.heap.objs.size]) grows.refl λc hc=>by rw[JP.mp hc];exact⟨WV,nB,⟨_,gd⟩,uw gd rfl⟩
  have vz:=Ir (s.heap.push emptyDict) a λo=>{o with dict:=JS s.heap.objs.size};have qo:((s.heap.push emptyDict).update a λo=>{o with dict:=JS s.heap.objs.size}).get? a=JS ⟨.ref c,JS s.heap.objs.size,.fields vs,#[]⟩:=Ih _ (gr _ _ g) rfl;have wa:ows C [s.heap.objs.size] n a=JS n:=(tD λq=>na (JP.mp q).symm).trans w;have Q_:=(vz.2 _ na).trans gd;have Xu:r4 ((s.heap.push emptyDict).update a λo=>{o with dict:=JS s.heap.objs.size}) s.heap.objs.size 0 (λzz=>none):=⟨_,#[],0,Q_,rfl,λe he=>absurd he (by simp),λzz=>rfl,JK _⟩;obtain Xx:FR f (ows C [s.heap.objs.size] n) ((s.heap.push emptyDict).update a λo=>{o with dict:=JS s.heap.objs.size}) [] (λzz=>none):=λx=>⟨λzz=>rfl,λv e=>nomatch e⟩;obtain iE:=qU.write (o:=.exc c t []) vz wa ⟨_,qo⟩ fa ⟨wa,JS s.heap.objs.size,vs,qo,sz,tE JH,na,_,Xu,Xx⟩;have Wd:∀{c},C c=none->c≠a:=λk q=>by rw[q,w]at k;cases k
  have xx:Ext [] f C s.heap f (ows C [s.heap.objs.size] n) ((s.heap.push emptyDict).update a λo=>{o with dict:=JS s.heap.objs.size}):=by
   refine⟨λzz zz e=>e,λc k e=>(tD λq=>?_).trans e,λc k e=>?_,λc o e=>?_,λc o e k zz zz=>.inl ((vz.2 c (Wd k)).trans (gr _ _ e)),λc⟨zo,zY,zH,e⟩k=>((vz.2 c (Wd k)).trans (gr _ _ e)).trans e.symm⟩;.rw[JP.mp q,WV]at e;cases e
   .by_cases q:c=s.heap.objs.size;.rw[q];exact .inr fresh
    .exact .inl ((tD λz=>q (JP.mp z)).symm.trans e)
   .by_cases q:c=a;.exact⟨_,(congrArg _ q).trans qo⟩
    .exact⟨o,(vz.2 c q).trans (gr _ _ e)⟩
  obtain ze:Done F [] f C s (J.set n (.exc c t [])) f (ows C [s.heap.objs.size] n) {s with heap:=(s.heap.push emptyDict).update a λo=>{o with dict:=JS s.heap.objs.size}}:=⟨xx,iE,rfl,rfl,λq=>by replace q:=z9.symm.trans q;cases q⟩;refine cD (s:={s with heap:=_,toks:=s.toks+1}) Xu (I4 _) λh' s9 pW hs=>⟨rfl,f,ows C [s.heap.objs.size] n,?_,trivial⟩;obtain dp:=fu (F:=F) (s:={s with heap:=_}) (tk:=s9) (a:=a) z9 iE fa (tE JH) Xx (VR.ext xx _ hv) pW hs (o':=.exc c t (st x v [])) λz1 z2=>⟨wa,JS s.heap.objs.size,vs,(hs.2 a (Hk na)).trans qo,sz,tE JH,na,_,z1,z2⟩;rw[Ew]at dp;exact ze.trans dp
theorem rE{o e:M}{x n c:Nat}{v:V}{fs:Loc}(z9:F.s=JT)(h:E F L e J (.ok v zt))(ho:E F L o zt (.ok (.ref n) zb))(hi:zb[n]?=JS (.inst c fs))(hk:xi c x=JQ)(hs:short fs=JQ):X1 F L (.zC o x e) J (.ok .next L (zb.set n (.inst c (st x v fs)))):=Ui h ho (V_ z9 hi hk hs)
theorem Uh{o e:M}{x n c:Nat}{t:Bool}{v:V}{fs:Loc}(z9:F.s=JT)(h:E F L e J (.ok v zt))(ho:E F L o zt (.ok (.ref n) zb))(hi:zb[n]?=JS (.exc c t fs))(hk:xi c x=JQ)(hs:short fs=JQ):X1 F L (.zC o x e) J (.ok .next L (zb.set n (.exc c t (st x v fs)))):=Ui h ho (Le z9 hi hk hs)
theorem bp{o e:M}{x n c:Nat}{i j:Int}{fs xF:Loc}(z9:F.s=JT)(ho:E F L o J (.ok (.ref n) zt))(hi:zt[n]?=JS (.inst c fs))(hk:xi c x=JQ)(hl:lk x fs=JS (.int i))(h:E F L e zt (.ok (.int j) zb))(eX:zb[n]?=JS (.inst c xF))(hs:short xF=JQ):X1 F L (.qG o x e) J (.ok .next L (zb.set n (.inst c (st x (.int (i+j)) xF)))):=KW ho (λhX fk r hv=>YH fk hi hk hl hX r hv) h (V_ z9 eX hk hs)
end
open PySem PySem.W PySem.Calls PyProof.Rows
noncomputable def Wi:Nat:=30
noncomputable def NS:Nat:=88
noncomputable def Wg:Nat:=69
noncomputable def l9:Nat:=49
noncomputable def NR:Nat:=138
noncomputable def Wf:Nat:=141
noncomputable def dK:Nat:=47
theorem dJ{h:Im}:Frag.In [] h:=λzz zz e=>by cases e
theorem Kj(K:Frag):findCls K (.type "ValueError") (.type "type") "__init__"=JS (.val (.builtin "ValueError.__init__")):=by kernel_rfl
theorem V8(K:Frag):findIn K (.type "type") "__getattribute__"=JS (JS (.builtin "type.__getattribute__")):=by kernel_rfl
theorem LF(K:Frag):subIn K (.type "type") (.type "type")=JS JQ:=by kernel_rfl
theorem V3:typeOf (.type "ValueError")=pure (.type "type"):=by kernel_rfl
section
variable{F:Fr}{A:Ip}{f:FM}{C:OW}{J:St}{s:JI}{h:Im}
theorem Ki{M:Model}:Looks M h (opaqueClassAbove (.type "ValueError")) none:=Ha (by kernel_rfl)
theorem Kh{M:Model}:Looks M h (specialOf (.type "ValueError") "__getattribute__") (JS (.builtin "type.__getattribute__")):=by unfold specialOf;rw[V3];exact(Looks.now).andThen (looks_findIn (K:=[]) dJ (V8 []))
theorem xS{n c:Nat}{fs:List (Nat×V)}{x g:Nat}(hn:J[n]?=JS (.inst c fs))(hm:prog.zl c x=JS g)(hf:lk x fs=none):Find F (.ref n) x J (.fn g) [.ref n]:=by
 refine⟨λ{A f C s ov pl}hX r ak hv=>?_⟩;obtain⟨a,fa,rfl⟩:=hv;obtain⟨a',ox,od,yt,I,hx⟩:=iz r hn;replace yt:=yc fa yt;cases yt;obtain X':=ak.ok.yQ.keeps r.base;obtain⟨k1,k2,k3⟩:=ak.ok.zl c x g hm hX;obtain⟨ga,e_,Q'⟩:∃ga,findIn F.b.K (.ref c) "__getattribute__"=JS (JS (.builtin ga))/\(Manifest.canonical ga !="object.__getattribute__")=JT:=by
  rcases ak.ok.ga c k1 with q|⟨q,_⟩;.exact⟨_,q,PySem.F.canon_object_ga⟩
  .exact⟨_,q,by decide+kernel⟩
 obtain hx:=(hx x).2 hf od rfl;have h:PO F (λf C h(zz:Unit)(r:JM×List JM)=>VR f C h (.fn g) r.1/\zS f C h [.ref n] r.2) f C s (.ok () J) (.ref g,[.ref a]) s:=wA r ⟨rfl,_,_,rfl,⟨a,fa,rfl⟩,rfl⟩;unfold getMethod specialOf;refine JR (JR (I.type.here ((looks_findIn X' e_).here ?_)));dsimp only;rewrite[Q'];rw[if_neg (by decide)];refine JR (JR (I.type.here ((looks_findIn X' (ak.ok.gx c k1)).here ?_)));refine JR (JR (I.type.here ((looks_findIn X' k2).here (JR ((looks_typeIn X' k3).here ?_)))));rw[if_neg (by decide+kernel)];refine JR (GO I.at_ ?_);obtain hd:=I.dict;cases e:ox.dict with|none=>exact JR (Gq (JL h))|some dx=>rw[e]at hd;refine JR (JR (GO hd ?_));rw[nsLook_of hx];exact JL (JR (Gq (JL h)))
theorem fb{b:Bi}{T name:String}{n x:Nat}{a:J0}{o:Obj}{pl:Sem Bool}(r:Rl F.b f C J s.heap)(fa:f n=JS a)(g:s.heap.get? a=JS o)(hc:o.cls=.type T)(hd:o.dict=none)(hx:nm x=name)(h:∀{Q:JM×List JM->JI->Prop}{E:JM->JI->Prop},s.TypeIs (.ref a) T->(∀c,HS a=.ref c->∃o,s.heap.get? c=JS o/\o.dict=none)->Q (.builtin b.id,[.ref a]) s->wpAny (model F.b.prog F.b.w) A (getMethod (.ref a) name pl) Q E s):W F A (getMethod (.ref a) (nm x) pl) (λf C h(zz:Unit)(r:JM×List JM)=>VR f C h (.bi b) r.1/\zS f C h [.ref n] r.2) f C s (.ok () J):=by rw[hx];exact h ⟨_,g,hc⟩ (λc e=>by cases e;exact⟨_,g,hd⟩) (wA r ⟨rfl,_,_,rfl,⟨a,fa,rfl⟩,rfl⟩)
theorem ug{n:Nat}{xs:List V}(hn:J[n]?=JS (.list xs)):Find F (.ref n) Wi J (.bi .nQ) [.ref n]:=⟨λzo r zY⟨a,fa,e⟩=>by subst e;obtain⟨w,items,ep,g,_⟩:=xf r fa hn;exact fb r fa g rfl rfl (by kernel_rfl) λhT dn h=>getMethod_builtin (T:="list") (name:="append") hT HY G7 PySem.F.type_list_append dn h⟩
theorem R5{n:Nat}{xs:List V}(hn:J[n]?=JS (.list xs)):Find F (.ref n) NS J (.bi .dZ) [.ref n]:=⟨λzo r zY⟨a,fa,e⟩=>by subst e;obtain⟨w,items,ep,g,_⟩:=xf r fa hn;exact fb r fa g rfl rfl (by kernel_rfl) λhT dn h=>getMethod_builtin (T:="list") (name:="extend") hT HY G6 PySem.F.type_list_extend dn h⟩
theorem Qy{n:Nat}{xs:List V}(hn:J[n]?=JS (.list xs)):Find F (.ref n) Wg J (.bi .dR) [.ref n]:=⟨λzo r zY⟨a,fa,e⟩=>by subst e;obtain⟨w,items,ep,g,_⟩:=xf r fa hn;exact fb r fa g rfl rfl (by kernel_rfl) λhT dn h=>getMethod_builtin (T:="list") (name:="pop") hT HY Fo PySem.F.type_list_pop dn h⟩
theorem Qz{n:Nat}{xs:List V}(hn:J[n]?=JS (.list xs)):Find F (.ref n) NR J (.bi .dY) [.ref n]:=⟨λzo r zY⟨a,fa,e⟩=>by subst e;obtain⟨w,items,ep,g,_⟩:=xf r fa hn;exact fb r fa g rfl rfl (by kernel_rfl) λhT dn h=>getMethod_builtin (T:="list") (name:="index") hT HY G' PySem.F.type_list_index dn h⟩
theorem tQ{n:Nat}{es:List (List Nat×V)}(hn:J[n]?=JS (.dict es)):Find F (.ref n) l9 J (.bi .zG) [.ref n]:=⟨λzo r zY⟨a,fa,e⟩=>by subst e;obtain⟨w,items,ep,g,_⟩:=vk r fa hn;exact fb r fa g rfl rfl (by kernel_rfl) λhT dn h=>getMethod_builtin (T:="dict") (name:="get") hT Hi HQ Fn dn h⟩
theorem YT{n:Nat}{es:List (List Nat×V)}(hn:J[n]?=JS (.v7 es)):Find F (.ref n) l9 J (.bi .zG) [.ref n]:=⟨λzo r zY⟨a,fa,e⟩=>by subst e;obtain⟨a',yt,ents,ep,g,_⟩:=r.objs n _ hn;replace yt:=yc fa yt;cases yt;exact fb r fa (r.base _ _ g) rfl rfl (by kernel_rfl) λhT dn h=>getMethod_builtin (T:="dict") (name:="get") hT Hi HQ Fn dn h⟩
theorem YS{n:Nat}{es:List (List Nat×V)}(hn:J[n]?=JS (.dict es)):Find F (.ref n) Wg J (.bi .ft) [.ref n]:=⟨λzo r zY⟨a,fa,e⟩=>by subst e;obtain⟨w,items,ep,g,_⟩:=vk r fa hn;exact fb r fa g rfl rfl (by kernel_rfl) λhT dn h=>getMethod_builtin (T:="dict") (name:="pop") hT Hi Fm PySem.F.type_dict_pop dn h⟩
theorem Qx{n:Nat}{es:List (List Nat×V)}(hn:J[n]?=JS (.dict es)):Find F (.ref n) Wf J (.bi .m9) [.ref n]:=⟨λzo r zY⟨a,fa,e⟩=>by subst e;obtain⟨w,items,ep,g,_⟩:=vk r fa hn;exact fb r fa g rfl rfl (by kernel_rfl) λhT dn h=>getMethod_builtin (T:="dict") (name:="update") hT Hi G5 PySem.F.type_dict_update dn h⟩
theorem fP{c x g:Nat}(hm:prog.zl c x=JS g):Find F (.cl c) x J (.fn g) []:=⟨λhX r ak hv=>by cases hv;obtain X':=ak.ok.yQ.keeps r.base;obtain⟨k1,k2,k3⟩:=ak.ok.reads c x g hm hX;exact method_cls X' k3 (cls_value X' k1 k2 rfl (xp r ⟨rfl,rfl⟩))⟩
theorem Qw:Find F (.ty .bx) dK J (.bi .bw) []:=⟨λ{A f C s ov pl}hX r zz hv=>by cases hv;show W F A (getMethod (.type "ValueError") (nm dK) pl) _ _ _ _ _;rw[show nm dK="__init__"by kernel_rfl];unfold getMethod;refine JR (Kh.here ?_);dsimp only;rw[if_pos canon_tga];refine JR (cls_open (K:=[]) (mc:=.type "type") dJ Ki (Ha V3) (V8 []) (looks_hook (r:=none) dJ rfl) (LF []) (Kj []) ?_);exact JL (handed_on rfl (JL (xp r ⟨rfl,rfl⟩)))⟩
end
open PySem PySem.W PySem.Calls PyProof.Rows
theorem Ku(s t:List Nat):tx s++tx t=tx (s++t):=congrArg Str.mk (List.append_toArray _ _)
theorem mi(s:List Nat):(tx s).length=s.length:=Hx
section
variable{F:Fr}{A:Ip}{f:FM}{C:OW}{J:St}{s:JI}{h:Im}
theorem zS.Wa{vs:List V}{ws:List JM}(e:zS f C h vs ws):vs=[]↔ws=[]:=by obtain this:=e.length;rewrite[←HX];rewrite[←HX (l:=ws)];rw[this]
theorem gY{i j:Int}:ur F .add (.int i) (.int j) J (.ok (.int (i+j)) J):=by refine⟨λr zo⟨t,e1⟩⟨u,e2⟩=>?_⟩;subst e1 e2;exact PyProof.Rows.add_int (xp r ⟨_,rfl⟩)
theorem b'{i j:Int}:ur F .sub (.int i) (.int j) J (.ok (.int (i-j)) J):=by refine⟨λr zo⟨t,e1⟩⟨u,e2⟩=>?_⟩;subst e1 e2;exact PyProof.Rows.sub_int' (xp r ⟨_,rfl⟩)
theorem oP{i j:Int}(h0:0<j)(h1:j<1000000):ur F .floordiv (.int i) (.int j) J (.ok (.int (i/j)) J):=by refine⟨λr zo⟨t,e1⟩⟨u,e2⟩=>?_⟩;subst e1 e2;refine PyProof.Rows.floordiv_int (by lia) ?_ (Or.inl (PyProof.noPylong_small (by lia)));rw[Int.fdiv_eq_ediv_of_nonneg _ (by lia)];exact xp r ⟨_,rfl⟩
theorem qy{i j:Int}(h0:0<j):ur F .mod (.int i) (.int j) J (.ok (.int (i%j)) J):=by refine⟨λr zo⟨t,e1⟩⟨u,e2⟩=>?_⟩;subst e1 e2;refine PyProof.Rows.mod_int' (by lia) ?_;rw[Int.fmod_eq_emod_of_nonneg _ (by lia)];exact xp r ⟨_,rfl⟩
theorem Sn:ur F .pow (.int 10) (.int 6) J (.ok (.int 1000000) J):=by refine⟨λr zo⟨t,e1⟩⟨u,e2⟩=>?_⟩;subst e1 e2;exact FY (by decide) (by decide+kernel) (xp r ⟨_,rfl⟩)
theorem Sm:ur F .pow (.int 10) (.int 7) J (.ok (.int 10000000) J):=by refine⟨λr zo⟨t,e1⟩⟨u,e2⟩=>?_⟩;subst e1 e2;exact FY (by decide) (by decide+kernel) (xp r ⟨_,rfl⟩)
theorem u9{a b:List Nat}(hs:short (a++b)=JQ):ur F .add (.str a) (.str b) J (.ok (.str (a++b)) J):=by refine⟨λr zo⟨t,e1⟩⟨u,e2⟩=>?_⟩;subst e1 e2;obtain hq:=vO hs;rw[JO]at hq;refine PyProof.Rows.add_str (λt' tk=>?_) (by rewrite[mi];rw[mi];exact hq);rw[Ku];exact xp r ⟨_,rfl⟩
theorem az{vs ws:List V}(hs:short (vs++ws)=JQ):ur F .add (.tup vs) (.tup ws) J (.ok (.tup (vs++ws)) J):=by
 refine⟨λ{A f C s xv yv}r zz hx hy=>?_⟩;obtain⟨a,items,ep,sl,rfl,g,n,hv⟩:=hx;obtain⟨a',td,yW,sy,rfl,g',n',sT⟩:=hy;obtain hq:=vO hs;rw[JO]at hq;obtain l1:=hv.length;obtain l2:=sT.length;rw[J8]at l1 l2;by_cases e1:items.isEmpty=JQ;.refine concat_meets ⟨_,g,rfl⟩ ⟨_,g',rfl⟩ noFill_tuple_add seq_tuple_add Gv H3 (HC _ _) (tuple_addW0 a a' items td ep yW none none sl sy e1) ⟨g,g',?_⟩;have:vs=[]:=hv.Wa.mpr (by simpa using e1);subst this;exact wA r ⟨a',td,yW,sy,rfl,g',n',sT⟩
 .by_cases e2:td.isEmpty=JQ;.refine concat_meets ⟨_,g,rfl⟩ ⟨_,g',rfl⟩ noFill_tuple_add seq_tuple_add Gv H3 (HC _ _) (tuple_addW1 a a' items td ep yW none none sl sy e1 e2) ⟨g,g',?_⟩;obtain this:ws=[]:=sT.Wa.mpr (by simpa using e2);subst this;rw[IV];exact wA r ⟨a,items,ep,sl,rfl,g,n,hv⟩
  .refine concat_meets ⟨_,g,rfl⟩ ⟨_,g',rfl⟩ noFill_tuple_add seq_tuple_add Gv H3 (HC _ _) (tuple_addW2 a a' items td ep yW none none sl sy e1 e2 (by lia)) ⟨g,g',?_⟩;obtain d:=jb (F:=F) (fr:=[]) r {cls:=.type "tuple",data:=.seq (items++td)};refine⟨f,C,d,s.heap.objs.size,items++td,0,#[],rfl,J7 _ rfl,(ta r (JK _)).1,?_⟩;rw[Ga];exact zS.ext d.ext _ (hv.append sT)
theorem mM{m n:Nat}{xs ys:List V}(h1:J[m]?=JS (.list xs))(h2:J[n]?=JS (.list ys))(hs:short (xs++ys)=JQ):ur F .add (.ref m) (.ref n) J (.ok (.ref J.length) (J++[.list (xs++ys)])):=by refine⟨λ{A f C s xv yv}r zz hx hy=>?_⟩;obtain⟨a,fa,rfl⟩:=hx;obtain⟨a',yt,rfl⟩:=hy;obtain⟨_,items,ep,g,hv⟩:=xf r fa h1;obtain⟨_,td,yW,g',sT⟩:=xf r yt h2;obtain hq:=vO hs;rw[JO]at hq;obtain l1:=hv.length;obtain l2:=sT.length;rw[J8]at l1 l2;refine concat_meets ⟨_,g,rfl⟩ ⟨_,g',rfl⟩ noFill_list_add seq_list_add PySem.F.slot_list_add PySem.F.entry_list_add (PySem.F.args_list_add_2 _ _) (list_addW a a' items td ep yW none none #[] #[] (by lia)) ⟨g,g',?_⟩;exact pD (tk:=s.toks) (g:=s.heap) r grows.refl (by rw[Ga];exact hv.append sT)
set_option tactic.hygienic true in theorem b6{m:Nat}{j:Int}{xs:List V}(h1:J[m]?=JS (.list xs))(hj:j=0\/j=1)(hs:short xs=JQ):ur F .mul (.ref m) (.int j) J (.ok (.ref J.length) (J++[.list (if j=0 then[]else xs)])):=by
 refine⟨λ{A f C s xv yv}r zz hx hy=>?_⟩;obtain⟨a,fa,rfl⟩:=hx;obtain⟨u,rfl⟩:=hy;obtain⟨_,items,ep,g,hv⟩:=xf r fa h1;obtain l1:=hv.length;replace l1:=J8.symm.trans l1;obtain hq:=vO hs;obtain z:sizeLine=2^24:=rfl;have hm:items.size*j.toNat<=2^24:=by
  rcases hj with rfl|rfl;.simp
  .simp;lia
 refine wpAny_binaryOp_repeat_ref (T:="list") (U:="int") (by decide) ⟨_,g,rfl⟩ (λs'=>typeIs_int s' j u) noFill_list_mul PySem.F.fills_int_mul Fj repeat_list PySem.F.slot_int_index.lookup (call_meets Fj (typeIs_int s j u) PySem.F.entry_int_rmul (PySem.F.args_int_rmul_2 _ _) (int___rmul___int_list j u a items ep) ⟨g,rfl,⟨_,g,rfl⟩,call_meets PySem.F.slot_list_mul ⟨_,g,rfl⟩ PySem.F.entry_list_mul (PySem.F.args_list_mul_2 _ _) (AutoListH.list___mul___list_int_3 a items ep j u (by simp[Builtin.List.listFitsIndex];lia) (by lia) ?_) ⟨g,?_⟩⟩)
 .rcases hj with rfl|rfl;.simp[HB,sizeLine]
  .simp[HB,sizeLine];lia
 .obtain e:List.foldl (λx1 x2=>x1++x2) #[] (Ea (if items.isEmpty=JQ then 0 else j.toNat) items)=if j=0 then#[]else items:=by
   rcases hj with rfl|rfl;.split<;>rfl
   .split;.rename_i z;exact(show items=#[]by simpa using z).symm
    .simp
  rw[e];exact pD (tk:=s.toks) (g:=s.heap) r grows.refl (by split;exact rfl;exact hv)
end
open PySem PySem.W PySem.Calls PyProof.Rows
mutual
noncomputable def conv:V->PyData|.none=>.none|.bool b=>.bool b|.int i=>.int i|.str s=>.str (tx s)|.tup vs=>.tuple (v_ vs)|_=>.none
noncomputable def v_:List V->List PyData|[]=>[]|v::r=>conv v::v_ r
end
noncomputable def lvl:Nat->V->Bool|zo,.none|zY,.bool zH|ya,.int xk=>JQ|zo,.str s=>s.all λc=>Io c 0x110000|n+1,.tup vs=>vs.all (lvl n)|zo,zY=>JT
section
variable{F:Fr}{A:Ip}{f:FM}{C:OW}{J:St}{s:JI}{h:Im}
mutual
theorem iG:∀(n:Nat)(v:V)(w:JM),lvl n v=JQ->VR f C h v w->C3 (∃as,Reads h w (conv v) as) ((conv v).canLay0=JQ) ((conv v).depth<=n)
|n,.none,w,zo,e=>by cases e;exact⟨⟨[],.none⟩,rfl,I4 _⟩
|n,.bool b,w,zo,e=>by cases e;exact⟨⟨[],.bool b⟩,rfl,I4 _⟩
|n,.int i,w,zo,e=>by obtain⟨t,rfl⟩:=e;exact⟨⟨[],.int i t⟩,rfl,I4 _⟩
|n,.str s,w,hl,e=>by
 obtain⟨t,rfl⟩:=e;have hl:(s.all λc=>Io c 0x110000)=JQ:=by cases n<;>exact hl
 refine⟨⟨[],.str _ t⟩,?_,I4 _⟩;show(tx s).cps.all (λc=>decide (c<0x110000))=JQ;unfold tx;rw[List.all_toArray];rw[Iz]at hl⊢;exactλc hc=>decide_eq_true (JA (hl c hc))
|n+1,.tup vs,w,hl,e=>by obtain⟨a,items,ep,sl,rfl,g,_,hv⟩:=e;obtain⟨⟨as,z1⟩,z2,z3⟩:=cU n vs _ hl hv;exact⟨⟨as,.tuple g rfl rfl z1⟩,z2,Ik z3⟩
|0,.tup vs,w,hl,e=>by cases hl
|n,.ref zo,w,hl,e|n,.fn zY,w,hl,e|n,.cl zH,w,hl,e|n,.bi ya,w,hl,e|n,.ty xk,w,hl,e=>by cases n<;>cases hl
theorem cU:∀(n:Nat)(vs:List V)(ws:List JM),vs.all (lvl n)=JQ->zS f C h vs ws->C3 (∃as,ReadsAll h ws (v_ vs) as) (PyData.canLayAll0 (v_ vs)=JQ) (PyData.depthAll (v_ vs)<=n)|n,[],ws,zo,e=>by cases e;exact⟨⟨[],.nil⟩,rfl,I4 _⟩|n,v::vs,ws,hl,e=>by obtain⟨w,r,rfl,e1,e2⟩:=e;rw[List.all_cons,IW]at hl;obtain⟨⟨as,a1⟩,a2,a3⟩:=iG n v w hl.1 e1;obtain⟨⟨bs,b1⟩,b2,b3⟩:=cU n vs r hl.2 e2;refine⟨⟨as++bs,.cons a1 b1⟩,(IW _ _).mpr ⟨a2,b2⟩,Nat.max_le.mpr ⟨a3,b3⟩⟩
end
noncomputable def oW(f:FM)(C:OW)(h:Im)(x:V)(d:PyData):Prop:=∀w,VR f C h x w->∃as,Reads h w d as/\GN d=JQ
theorem VY{d:PyData}{n:Nat}(h1:d.canLay0=JQ)(h2:d.depth<=n)(h3:n<=64):GN d=JQ:=by unfold GN;rewrite[h1];rewrite[G4];rw[decide_eq_true_eq];lia
theorem jq{x:V}(h:lvl 3 x=JQ):oW f C s.heap x (conv x):=λw hw=>by obtain⟨⟨as,a1⟩,a2,a3⟩:=iG 3 x w h hw;exact⟨as,a1,VY a2 a3 (by decide)⟩
theorem aU{x:V}{xs:List V}{a:J0}{o:Obj}{items:Array JM}{ep:Nat}(hx:∀w,VR f C h x w->w=.ref a)(g:h.get? a=JS o)(hc:o.cls=.type "list")(hd:o.data=.seq items ep)(hv:zS f C h xs items.toList)(hl:xs.all (lvl 3)=JQ):oW f C h x (.list (v_ xs)):=λw hw=>by rw[hx w hw];obtain⟨⟨as,a1⟩,a2,a3⟩:=cU 3 xs _ hl hv;exact⟨_,.list g hc hd a1,VY (n:=4) (by simpa[PyData.canLay0]using a2) (by simp only[PyData.depth];lia) (by decide)⟩
theorem aV{n:Nat}{xs:List V}(r:Rl F.b f C J s.heap)(hn:J[n]?=JS (.list xs))(hl:xs.all (lvl 3)=JQ):oW f C s.heap (.ref n) (.list (v_ xs)):=by obtain⟨a,fa,_,items,ep,g,hv⟩:=r.objs n _ hn;exact aU (λw⟨a',yt,e⟩=>by replace yt:=yc fa yt;cases yt;exact e) g rfl rfl hv hl
theorem Ri{n:Nat}{xs:List V}(r:Rl F.b f C J s.heap)(hn:J[n]?=JS (.qE xs))(hl:xs.all (lvl 3)=JQ):oW f C s.heap (.ref n) (.list (v_ xs)):=by obtain⟨a,fa,items,ep,sl,g,hv⟩:=r.objs n _ hn;exact aU (λw⟨a',yt,e⟩=>by replace yt:=yc fa yt;cases yt;exact e) (r.base _ _ g) rfl rfl hv hl
theorem gF{x y:V}{dx dy:PyData}(hx:∀{f:FM}{C:OW}{s:JI},Rl F.b f C J s.heap->oW f C s.heap x dx)(hy:∀{f:FM}{C:OW}{s:JI},Rl F.b f C J s.heap->oW f C s.heap y dy):xg F .eq x y J (Gl dx dy)/\xg F .ne x y J (!Gl dx dy):=by
 constructor<;>refine⟨λ{A f C s xv yv}r a h1 h2=>?_⟩;all_goals
  have hu:A.units+64<cLine:=by obtain this:=a.units;lia
  obtain⟨as,z1,z2⟩:=hx r xv h1;obtain⟨bs,y1,y2⟩:=hy r yv h2
 .exact PyProof.Rows.eq_dataH z1 y1 z2 y2 hu (wA r rfl)
 .exact PyProof.Rows.ne_dataH z1 y1 z2 y2 hu (wA r rfl)
theorem gU{x y:V}{t:Bool}(hx:lvl 3 x=JQ)(hy:lvl 3 y=JQ)(h:Gl (conv x) (conv y)=t):xg F .eq x y J t:=h▸(gF (λzz=>jq hx) (λzz=>jq hy)).1
theorem gR{x y:V}{t:Bool}(hx:lvl 3 x=JQ)(hy:lvl 3 y=JQ)(h:Gl (conv x) (conv y)=t):xg F .ne x y J (!t):=h▸(gF (λzz=>jq hx) (λzz=>jq hy)).2
theorem mI{m n:Nat}{xs ys:List V}{t:Bool}(h1:J[m]?=JS (.list xs)\/J[m]?=JS (.qE xs))(h2:J[n]?=JS (.list ys))(hx:xs.all (lvl 3)=JQ)(hy:ys.all (lvl 3)=JQ)(h:FE (v_ xs) (v_ ys)=t):xg F .eq (.ref m) (.ref n) J t/\xg F .ne (.ref m) (.ref n) J (!t):=h▸gF (λr=>h1.elim (λq=>aV r q hx) λq=>Ri r q hx) (λr=>aV r h2 hy)
theorem Yd(a b:List Nat):Gl (conv (.str a)) (conv (.str b))=zR b a:=by exact gN a b
theorem jy{i j:Int}:xg F .lt (.int i) (.int j) J (decide (i<j)):=by refine⟨λr zo⟨t,e1⟩⟨u,e2⟩=>?_⟩;subst e1 e2;exact FJ (wA r rfl)
noncomputable def isNone:V->Option Bool|.none=>JS JQ|.bi zo=>none|_=>JS JT
theorem beq_none{v:V}{w:JM}{c:Bool}(hv:VR f C h v w)(e:isNone v=JS c):plainIs w .none=JQ/\(w==Hz)=c:=by cases v with|none=>cases hv;cases e;exact⟨rfl,beq_self_eq_true _⟩|bi zo=>cases e|bool zo|fn zY|cl zH|ty ya=>cases hv;cases e;exact⟨rfl,beq_false_of_ne (λq=>by cases q)⟩|int zo|str zY=>obtain⟨t,rfl⟩:=hv;cases e;exact⟨rfl,beq_false_of_ne (λq=>by cases q)⟩|tup zo=>obtain⟨a,_,_,_,rfl,_⟩:=hv;cases e;exact⟨rfl,beq_false_of_ne (λq=>by cases q)⟩|ref zo=>obtain⟨a,_,rfl⟩:=hv;cases e;exact⟨rfl,beq_false_of_ne (λq=>by cases q)⟩
theorem yX{v:V}{t:Bool}(e:isNone v=JS t):xg F .is v .none J t:=by refine⟨λr zz hx hy=>?_⟩;cases hy;obtain⟨z1,z2⟩:=beq_none hx e;exact wpAny_is_plain z1 (by rw[z2];exact wA r rfl)
theorem ri{v:V}{t:Bool}(e:isNone v=JS t):xg F .yS v .none J (!t):=by refine⟨λr zz hx hy=>?_⟩;cases hy;obtain⟨z1,z2⟩:=beq_none hx e;exact wpAny_isNot_plain z1 (by rw[z2];exact wA r rfl)
noncomputable def strsOf:List V->Option (List (List Nat))|[]=>JS []|.str s::r=>(strsOf r).map (s::.)|_=>none
noncomputable def rW(k:List Nat)(y:JM):Bool:=match y with|.str a _=>a==tx k|_=>JT
set_option tactic.hygienic true in theorem kS{k:List Nat}{t:Tok}:∀{vs:List V}{ws:List JM}{l:List (List Nat)},zS f C h vs ws->strsOf vs=JS l->(∀y∈ws,MeetsSeq.EqGives y (.str (tx k) t) (rW k y))/\ws.map (rW k)=l.map (zR k)
|[],zo,l,e,hl=>by cases e;cases hl;exact⟨λy hy=>absurd hy (by simp),rfl⟩
|v::vs,zo,l,⟨w,r,e,e1,e2⟩,hl=>by
 subst e;cases v<;>first|cases hl|skip
 rename_i a;obtain⟨l',h1,rfl⟩:=JB.mp hl;obtain⟨t',rfl⟩:=e1;have ih:=kS (k:=k) (t:=t) e2 h1;refine⟨λy hy=>?_,?_⟩
 .rcases JJ.mp hy with rfl|hy;.have:=ES (tx a) (tx k) t' t;rw[PySem.SeqAt.str_beq]at this;exact this
  .exact ih.1 y hy
 .rewrite[It];rewrite[It];rw[ih.2];exact congrArg (.::_) (gN a k)
theorem any_map{zi:Type}(p:zi->Bool)(l:List zi):l.any p=(l.map p).any id:=by rw[List.any_map];rfl
theorem kD{k:List Nat}{t:Tok}{vs:List V}{items:Array JM}{l:List (List Nat)}(hv:zS f C h vs items.toList)(h1:strsOf vs=JS l):items.any (rW k)=l.any (zR k):=by rewrite[<-Array.any_toList];rewrite[any_map];rewrite[(kS (k:=k) (t:=t) hv h1).2];rw[<-any_map]
theorem gT{k:List Nat}{vs:List V}{l:List (List Nat)}(hl:strsOf vs=JS l):xg F .yQ (.str k) (.tup vs) J (l.any (zR k))/\xg F .y9 (.str k) (.tup vs) J (!l.any (zR k)):=by
 constructor<;>refine⟨λ{A f C s xv yv}r zz hx hy=>?_⟩;all_goals obtain⟨t,rfl⟩:=hx;obtain⟨a,items,ep,sl,rfl,g,_,hv⟩:=hy;have hT:s.heap.IsTuple a items:=⟨_,g,rfl,ep,rfl⟩;have z1:=(kS (k:=k) (t:=t) hv hl).1
 .exact PySem.SeqAt.in_tupleAt (rW k) hT (λy hy=>(z1 y (Ie.mpr hy)).at _ _) (by rw[kD (t:=t) hv hl];exact wA r rfl)
 .exact PySem.SeqAt.notIn_tupleAt (rW k) hT (λy hy=>(z1 y (Ie.mpr hy)).at _ _) (by rw[kD (t:=t) hv hl];exact wA r rfl)
theorem mG{n:Nat}{k:List Nat}{xs:List V}{l:List (List Nat)}(hn:J[n]?=JS (.list xs))(hl:strsOf xs=JS l):xg F .yQ (.str k) (.ref n) J (l.any (zR k))/\xg F .y9 (.str k) (.ref n) J (!l.any (zR k)):=by
 constructor<;>refine⟨λ{A f C s xv yv}r zz hx hy=>?_⟩;all_goals obtain⟨t,rfl⟩:=hx;obtain⟨a,fa,rfl⟩:=hy;obtain⟨_,items,ep,g,hv⟩:=xf r fa hn;have hT:s.heap.IsList a items:=⟨_,g,rfl,ep,rfl⟩;have z1:=(kS (k:=k) (t:=t) hv hl).1
 .exact PySem.SeqAt.in_listAt (rW k) hT (λy hy=>(z1 y (Ie.mpr hy)).at _ _) (by rw[kD (t:=t) hv hl];exact wA r rfl)
 .exact PySem.SeqAt.notIn_listAt (rW k) hT (λy hy=>(z1 y (Ie.mpr hy)).at _ _) (by rw[kD (t:=t) hv hl];exact wA r rfl)
theorem i_{b:Bc}{es:List (List Nat×V)}{ents:Array Ig}{ep:Nat}{a:J0}(dr:DR b.w.params f C h es ents.toList)(g:h.get? a=JS (xu ents ep)):h.MapOf (strKind b.prog b.w) a (findBy (strKind b.prog b.w).is ents)/\∀k,(∀v,zG k es=JS v->∃w,findBy (strKind b.prog b.w).is ents (tx k)=JS w/\VR f C h v w)/\(zG k es=none->findBy (strKind b.prog b.w).is ents (tx k)=none):=by
 refine⟨⟨_,ents,ep,g,⟨rfl,rfl,rfl⟩,rfl,λe he=>DR.keys dr e (Ie.mpr he),λzz=>rfl⟩,λk=>?_⟩;rewrite[findBy_of_findIdx?];rw[findIdx_toArray];rcases DR.at (prog:=b.prog) (k:=k) (v:=.none) (wv:=.none) (mh:=0) dr with⟨i,e,u,z1,z2,z3,z4,_⟩|⟨z1,z2,_⟩;.rw[z1];refine⟨λv q=>?_,λq=>(nomatch z3.symm.trans q)⟩;replace q:=yc z3 q;cases q;exact⟨e.val,by show Option.map _ ents[i]?=_;rewrite[<-Iu];rw[z2];rfl,z4⟩
 .rw[z1];exact⟨λv q=>(nomatch z2.symm.trans q),λzz=>rfl⟩
theorem mH{n:Nat}{k:List Nat}{es:List (List Nat×V)}(hn:J[n]?=JS (.dict es)):xg F .yQ (.str k) (.ref n) J (zG k es).isSome/\xg F .y9 (.str k) (.ref n) J (!(zG k es).isSome):=by
 constructor<;>refine⟨λ{A f C s xv yv}r ak hx hy=>?_⟩;all_goals obtain⟨t,rfl⟩:=hx;obtain⟨a,fa,rfl⟩:=hy;obtain⟨w,ents,ep,g,dr,nd⟩:=vk r fa hn;obtain⟨m1,m2⟩:=i_ dr g;have z:(findBy (strKind F.b.prog F.b.w).is ents (tx k)).isSome=(zG k es).isSome:=by cases q:zG k es with|none=>rw[(m2 k).2 q];rfl|some v=>obtain⟨w,h1,_⟩:=(m2 k).1 v q;rw[h1];rfl
 .exact wpAny_in_of (strKind_is _ _ (tx k) t) (nF ak.ok r w) m1 (by rw[z];exact xp r rfl)
 .exact wpAny_notIn_of (strKind_is _ _ (tx k) t) (nF ak.ok r w) m1 (by rw[z];exact xp r rfl)
end
open PySem PySem.W PySem.Calls PyProof.Rows
theorem WA(a:Nat)(r:List Nat):Hg (JS 1) (JS (-1)) 1 (a::r).length=(IF (r.length-1)).map (.+1):=by
 simp only[Hg,sliceRange,ID];simp only[show(1:Int)>0 by decide,if_true,show¬((1:Int)<0)by decide,if_false,show(-1:Int)<0 by decide];obtain e1:max 0 (min (1:Int) ((r.length+1:Nat):Int))=1:=by lia
 obtain e2:max 0 (min (-1+((r.length+1:Nat):Int)) ((r.length+1:Nat):Int))=(r.length:Int):=by lia
 rewrite[e1];rw[e2];obtain e3:(if(1:Int)<(r.length:Int)then((r.length:Int)-1+1-1)/1 else 0).toNat=r.length-1:=by
  split;.rw[Int.ediv_one];lia
  .lia
 rw[e3];apply HG;intro k _;lia
theorem picked(s:List Nat):((Hg (JS 1) (JS (-1)) 1 s.length).filterMap (s[.]?))=(s.drop 1).dropLast:=by
 rcases s with _|⟨a,r⟩;.rfl
 .rewrite[WA];rw[List.filterMap_map];show GR (λi=>(a::r)[i+1]?) (IF (r.length-1))=r.dropLast;obtain this:∀n,n<=r.length->GR (λi=>(a::r)[i+1]?) (IF n)=r.take n:=by intro n;induction n with|zero=>intro _;simp|succ n ih=>intro hn;rewrite[List.range_succ];rewrite[List.filterMap_append];rw[ih (by lia)];simp only[List.getElem?_cons_succ];rw[List.take_add_one];congr 1
  rewrite[this _ (by lia)];rw[Fi]
section
variable{F:Fr}{A:Ip}{f:FM}{C:OW}{J zt zb yO zy:St}{s:JI}{h:Im}{L:Loc}
theorem rS{M:Model}{o:JM}{T:String}{i:String}(hT:Looks M h (typeOf o) (.type T))(hl:typeLookup (.type T) "__getitem__"=pure (JS (.builtin i))):Looks M h (getitemInPython o) JT:=(hT.andThen (Ha hl)).andThen .now
theorem qf{M:Model}{a:J0}{o:Obj}(g:h.get? a=JS o):Looks M h (typeOf (.ref a)) o.cls:=(Eu g).andThen .now
theorem Vb{j n:Nat}(h:j<n):seqIndex? (j:Int) n=JS j:=by simp only[seqIndex?,if_neg (show¬(j:Int)<0 by lia)];rw[if_pos (by simp only[IW,decide_eq_true_eq];lia)];rfl
theorem vo{vs:List V}{j:Nat}{v:V}(hv:vs[j]?=JS v)(hs:j<2^60):Sub F (.tup vs) (.int j) J v:=by refine⟨λ{A f C s ov iv}r zz ho hi=>?_⟩;obtain⟨a,items,ep,sl,rfl,g,nn,uL⟩:=ho;obtain⟨t,rfl⟩:=hi;obtain⟨w,h3,h4⟩:=uL.get hv;refine⟨rS (qf g) PySem.F.slot_tuple_getitem.lookup,?_⟩;obtain hl:=uL.length;replace hl:=J8.symm.trans hl;exact PyProof.Rows.getItem_tuple ⟨_,g,rfl,ep,rfl⟩ (by lia) (by lia) (Vb (by rw[hl];exact y0 hv)) (by rw[<-Iu];exact h3) (wA r h4)
theorem cO{str:List Nat}{j c:Nat}(hc:str[j]?=JS c)(hs:j<2^60):Sub F (.str str) (.int j) J (.str [c]):=by
 refine⟨λ{A f C s ov iv}r zz ho hi=>?_⟩;obtain⟨t0,rfl⟩:=ho;obtain⟨t,rfl⟩:=hi;refine⟨rS (T:="str") (Ha rfl) G3.lookup,PyProof.Rows.getItem_str (c:=c) ?_ ?_ (xp r ⟨_,rfl⟩)⟩;.simp only[IS,decide_eq_false_iff_not];lia
 .rewrite[mi];rw[Vb (y0 hc)];show(tx str).cps[j]?=_;unfold tx;rw[<-Iu];exact hc
theorem tA{n j:Nat}{xs:List V}{v:V}(hn:J[n]?=JS (.list xs))(hv:xs[j]?=JS v)(hs:j<2^60):Sub F (.ref n) (.int j) J v:=by refine⟨λ{A f C s ov iv}r zz ho hi=>?_⟩;obtain⟨a,fa,rfl⟩:=ho;obtain⟨t,rfl⟩:=hi;obtain⟨_,items,ep,g,uL⟩:=xf r fa hn;obtain⟨w,h3,h4⟩:=uL.get hv;rw[Iu]at h3;exact⟨rS (qf g) Hs.lookup,wpAny_getItem_list ⟨_,g,rfl,ep,rfl⟩ (by lia) (by lia) h3 (wA r h4)⟩
theorem Ll{n:Nat}{xs:List V}{v:V}(hn:J[n]?=JS (.list xs))(hv:xs[xs.length-1]?=JS v)(hs:short xs=JQ):Sub F (.ref n) (.int (-1)) J v:=by refine⟨λ{A f C s ov iv}r zz ho hi=>?_⟩;obtain⟨a,fa,rfl⟩:=ho;obtain⟨t,rfl⟩:=hi;obtain⟨_,items,ep,g,uL⟩:=xf r fa hn;obtain⟨w,h3,h4⟩:=uL.get hv;obtain hl:=uL.length;replace hl:=J8.symm.trans hl;rw[Iu]at h3;obtain yN:=y0 hv;obtain this:=qx hs;refine⟨rS (qf g) Hs.lookup,wpAny_getItem_list_neg ⟨_,g,rfl,ep,rfl⟩ (by lia) (by lia) (by lia) ?_ (wA r h4)⟩;rw[show(-1+(items.size:Int)).toNat=xs.length-1 by lia];exact h3
theorem n8{n:Nat}{es:List (List Nat×V)}{k:List Nat}{v:V}(hn:J[n]?=JS (.dict es)\/J[n]?=JS (.v7 es))(hv:zG k es=JS v):Sub F (.ref n) (.str k) J v:=by
 refine⟨λ{A f C s ov iv}r zz ho hi=>?_⟩;obtain⟨a,fa,rfl⟩:=ho;obtain⟨t,rfl⟩:=hi;obtain⟨ents,ep,g,dr⟩:X2 λents ep=>s.heap.get? a=JS (xu ents ep)/\DR F.b.w.params f C s.heap es ents.toList:=by
  rcases hn with hn|hn;.obtain⟨_,ents,ep,g,dr,_⟩:=vk r fa hn;exact⟨ents,ep,g,dr⟩
  .obtain⟨a',yt,ents,ep,g,dr,_⟩:=r.objs n _ hn;replace yt:=yc fa yt;cases yt;exact⟨ents,ep,r.base _ _ g,dr⟩
 obtain⟨m1,m2⟩:=i_ dr g;obtain⟨w,h1,h2⟩:=(m2 k).1 v hv;exact⟨rS (qf g) PySem.F.slot_dict_getitem.lookup,wpAny_getItem_of (strKind_is _ _ (tx k) t) m1 h1 (xp r h2)⟩
theorem cI{n:Nat}{es:List (List Nat×V)}{k:List Nat}{v:V}(z9:F.s=JT)(hn:J[n]?=JS (.dict es))(hs:short es=JQ):mS F (.ref n) (.str k) v J (J.set n (.dict (dput k v es))):=λ{A f C s ov iv vv}r ho hi hv=>by
 obtain⟨a,fa,rfl⟩:=ho;obtain⟨t,rfl⟩:=hi;obtain⟨w,ents,ep,g,dr,nd⟩:=vk r fa hn;obtain hT:s.TypeIs (.ref a) "dict":=⟨_,g,rfl⟩;show wpAny _ _ (setItem _ _ _) _ _ _;unfold setItem;try with_reducible refine JE ?_
 refine JR (wpAny_sequenceKey hT (by decide) ?_);refine JR (wpAny_callSpecial?_slot (name:=Ij "__setitem__") hT GH (Gn GH hT PySem.F.entry_dict_setitem ?_ (PySem.F.args_dict_setitem_3 _ _ _)));show wpAny _ _ (Builtin.Dict.notOrdered "__setitem__" ⟨[.ref a,_,_],[]⟩>>=_) _ _ s;refine JR (Fh hT ?_);show wpAny _ _ (dictSet a _ _>>=_) _ _ s;refine JR (fw g dr hv (vO hs) λh' wV yW hs g' mA=>JL ⟨.none,rfl,JL ?_⟩);exact⟨f,C,ZC (tk:=s.toks+1) z9 r fa w hs g' mA (mB nd),trivial⟩
theorem ot{o i e:M}{n:Nat}{k:List Nat}{v:V}{es:List (List Nat×V)}(z9:F.s=JT)(h:E F L e J (.ok v zt))(ho:E F L o zt (.ok (.ref n) zb))(hi:E F L i zb (.ok (.str k) yO))(hd:yO[n]?=JS (.dict es))(hs:short es=JQ):X1 F L (.y7 o i e) J (.ok .next L (yO.set n (.dict (dput k v es)))):=KY h ho hi (cI z9 hd hs)
theorem zS.take:∀{vs:List V}{ws:List JM}(n:Nat),zS f C h vs ws->zS f C h (vs.take n) (ws.take n)|zo,zY,0,zH=>by rewrite[EY];rw[EY];rfl|[],zo,n+1,e=>by cases e;exact rfl|v::vs,zo,n+1,⟨w,r,e,h1,h2⟩=>by subst e;exact⟨w,_,rfl,h1,zS.take n h2⟩
theorem i6{n:Nat}{xs:List V}{t:Tok}(hn:J[n]?=JS (.list xs))(hs:short xs=JQ):uA F (.ref n) .none .none (.int (-1) t) J (.ref J.length) (J++[.list xs.reverse]):=by refine⟨λ{A f C s ov I}r gs ho=>?_⟩;obtain⟨a,fa,rfl⟩:=ho;obtain⟨_,items,ep,g,hv⟩:=xf r fa hn;obtain hl:=hv.length;replace hl:=J8.symm.trans hl;refine⟨rS (qf g) Hs.lookup,HA (lo:=none) (hi:=none) (st:=JS (-1)) ⟨_,g,rfl,ep,rfl⟩ gs .none .none (.int _ _) (by simp) ?_ (by rw[hl];exact vO hs)⟩;rw[krv_pick];exact pD (tk:=s.toks) (g:=s.heap) r grows.refl (by simpa using hv.cR)
theorem Ld{n:Nat}{i:Int}{xs:List V}{t:Tok}(hi:0<=i)(hn:J[n]?=JS (.list xs))(hs:short xs=JQ):uA F (.ref n) (.int i t) .none .none J (.ref J.length) (J++[.list (xs.drop i.toNat)]):=by refine⟨λ{A f C s ov I}r gs ho=>?_⟩;obtain⟨a,fa,rfl⟩:=ho;obtain⟨_,items,ep,g,hv⟩:=xf r fa hn;obtain hl:=hv.length;replace hl:=J8.symm.trans hl;refine⟨rS (qf g) Hs.lookup,HA (lo:=JS i) (hi:=none) (st:=none) ⟨_,g,rfl,ep,rfl⟩ gs (.int _ _) .none .none (by simp) ?_ (by rw[hl];exact vO hs)⟩;obtain e:=slicePick_from' items i.toNat;rw[show((i.toNat:Nat):Int)=i by lia]at e;rw[e];exact pD (tk:=s.toks) (g:=s.heap) r grows.refl (by simpa using zS.drop _ hv)
theorem Lb{n:Nat}{j:Int}{xs:List V}{t:Tok}(hj:0<=j)(hn:J[n]?=JS (.qE xs))(hs:short xs=JQ):uA F (.ref n) .none (.int j t) .none J (.ref J.length) (J++[.list (xs.take j.toNat)]):=by refine⟨λ{A f C s ov I}r gs ho=>?_⟩;obtain⟨a,fa,rfl⟩:=ho;obtain⟨K2,fS,items,ep,sl,g,hv⟩:=r.objs n _ hn;replace fS:=yc fa fS;cases fS;have g:=r.base _ _ g;obtain hl:=hv.length;replace hl:=J8.symm.trans hl;refine⟨rS (qf g) Hs.lookup,HA (lo:=none) (hi:=JS j) (st:=none) ⟨_,g,rfl,ep,rfl⟩ gs .none (.int _ _) .none (by simp) ?_ (by rw[hl];exact vO hs)⟩;obtain e:=slicePick_upto' items j.toNat;rw[show((j.toNat:Nat):Int)=j by lia]at e;rw[e];exact pD (tk:=s.toks) (g:=s.heap) r grows.refl (by simpa using zS.take _ hv)
set_option tactic.hygienic true in theorem VW{str:List Nat}{t1 t2:Tok}(qs:short str=JQ):uA F (.str str) (.int 1 t1) (.int (-1) t2) .none J (.str (str.drop 1).dropLast) J:=by
 refine⟨λ{A f C s ov I}r gs ho=>?_⟩;obtain⟨t0,rfl⟩:=ho;refine⟨rS (T:="str") (Ha rfl) G3.lookup,wpAny_getItem_str_slice (l:=JS (1,t1)) (u:=JS (-1,t2)) (st:=none) gs rfl ?_⟩;have hp:slicePicked (tx str) (JS (1,t1)) (JS (-1,t2)) none=Hg (JS 1) (JS (-1)) 1 str.length:=by unfold slicePicked;rw[mi];rfl
 have hm:((slicePicked (tx str) (JS (1,t1)) (JS (-1,t2)) none).filterMap ((tx str).cps[.]?))=(str.drop 1).dropLast:=by rewrite[hp];rw[<-picked str];congr 1;funext i;show(tx str).cps[i]?=_;simp[tx]
 have po:∀(v:JM)(tk:Nat),(∃t,v=.str (tx (str.drop 1).dropLast) t)->PO F rV f C s (.ok (.str (str.drop 1).dropLast) J) v {s with toks:=tk}:=λv tk hv=>xp r hv;unfold sliceMade;split
 .rename_i q;simp only[IW,beq_iff_eq]at q;refine po _ s.toks ⟨t0,?_⟩;obtain hz:=q.2;rw[hp,mi]at hz;obtain this:(str.drop 1).dropLast=str:=by cases str with|nil=>rfl|cons a r=>rw[WA,JN,Hc,ID]at hz;lia
  rw[this]
 .rw[hm];refine⟨?_,po _ (s.toks+1) ⟨s.toks,rfl⟩⟩;show(tx (str.drop 1).dropLast).length<=_;obtain this:=vO qs;rewrite[mi];rewrite[List.length_dropLast];rw[Gm];lia
end
open PySem PySem.W PySem.Calls PyProof.Rows
section
variable{F:Fr}{A:Ip}{f:FM}{C:OW}{J zt zb yO zy:St}{s:JI}{h h':Im}{L:Loc}
theorem cL{a:J0}{items:Array JM}{ep:Nat}(g:h.get? a=JS ⟨.type "list",none,.seq items ep,#[]⟩)(F:Array JM->Array JM):∃yW,(h.update a (H_ F)).get? a=JS ⟨.type "list",none,.seq (F items) yW,#[]⟩:=⟨_,get?_update_seq g F⟩
theorem pH{n:Nat}{xs:List V}{v:V}(z9:F.s=JT)(hn:J[n]?=JS (.list xs))(hs:short xs=JQ):Call F (.bi .nQ) [.ref n,v] J (.ok .none (J.set n (.list (xs++[v])))):=by refine⟨λ{A f C s xY vals}r zz hf hv=>?_⟩;cases hf;obtain⟨_,r0,rfl,⟨a,fa,rfl⟩,wv,r1,rfl,lQ,hr⟩:=hv;cases hr;obtain⟨w,items,ep,g,xA⟩:=xf r fa hn;obtain hl:=xA.length;rw[J8]at hl;obtain hq:=qx hs;obtain bc:sizeLine=2^24:=rfl;refine call_meets G7 (⟨_,g,rfl⟩:s.TypeIs (.ref a) "list") PySem.F.entry_list_append (PySem.F.args_list_append_2 _ _) (AutoListH.list_append_list_val_0 a items ep wv (by lia)) ⟨g,?_⟩;obtain⟨yW,g'⟩:=cL g λx=>x.push wv;exact⟨f,C,jh (tk:=s.toks) z9 r fa w (Ir ..) g' (by rw[GB];exact xA.append (zS.single lQ)),rfl⟩
theorem Nm{n m:Nat}{xs ys:List V}(z9:F.s=JT)(hn:J[n]?=JS (.list xs))(hm:J[m]?=JS (.list ys))(hs:short (xs++ys)=JQ):Call F (.bi .dZ) [.ref n,.ref m] J (.ok .none (J.set n (.list (xs++ys)))):=by refine⟨λ{A f C s xY vals}r zz hf hv=>?_⟩;cases hf;obtain⟨_,r0,rfl,⟨a,fa,rfl⟩,wv,r1,rfl,⟨c,fc,rfl⟩,hr⟩:=hv;cases hr;obtain⟨w,items,ep,g,xA⟩:=xf r fa hn;obtain⟨w',td,yW,g',Xh⟩:=xf r fc hm;obtain hl:=xA.length;obtain sY:=Xh.length;rw[J8]at hl sY;obtain hq:=qx hs;rw[JO]at hq;obtain bc:sizeLine=2^24:=rfl;refine call_meets G6 (⟨_,g,rfl⟩:s.TypeIs (.ref a) "list") PySem.F.entry_list_extend (PySem.F.args_list_extend_2 _ _) (AutoSeq1.list_extend_list_list_0 a items ep c td yW (by simp[HB];lia) (by lia) (by lia)) ⟨g,g',?_⟩;obtain⟨RT,fL⟩:=cL g λx=>x++td;exact⟨f,C,jh (tk:=s.toks) z9 r fa w (Ir ..) fL (by rw[Ga];exact xA.append Xh),rfl⟩
theorem Ni{n:Nat}{xs:List V}{v:V}(z9:F.s=JT)(hn:J[n]?=JS (.list (xs++[v])))(hs:short xs=JQ):Call F (.bi .dR) [.ref n] J (.ok v (J.set n (.list xs))):=by
 refine⟨λ{A f C s xY vals}r zz hf hv=>?_⟩;cases hf;obtain⟨_,r0,rfl,⟨a,fa,rfl⟩,hr⟩:=hv;cases hr;obtain⟨w,items,ep,g,xA⟩:=xf r fa hn;obtain hl:=xA.length;rw[J8,JO,Il]at hl;obtain hq:=qx hs;obtain bc:sizeLine=2^24:=rfl;obtain⟨wv,sS,ti⟩:=xA.get (i:=xs.length) (v:=v) (by simp);refine call_meets Fo (⟨_,g,rfl⟩:s.TypeIs (.ref a) "list") PySem.F.entry_list_pop (PySem.F.args_list_pop_1 _) (MeetsSeq.list_pop_last a items ep wv (by rewrite[hl];rw[<-Iu];exact sS) (by lia)) ⟨g,?_⟩;obtain⟨RT,fL⟩:=cL g λxs=>xs.eraseIdxIfInBounds (items.size-1);obtain dr:zS f C s.heap xs (items.eraseIdxIfInBounds (items.size-1)).toList:=by
  rewrite[Array.eraseIdxIfInBounds_eq];rewrite[dif_pos (by lia)];rewrite[Array.toList_eraseIdx];rewrite[<-J8];rewrite[List.eraseIdx_length_sub_one];rewrite[Fi];rewrite[J8];rw[hl];obtain this:=zS.take xs.length xA;rw[List.take_left']at this;.exact this
  .rfl
 obtain d:=jh (tk:=s.toks) z9 r fa w (Ir ..) fL dr;exact⟨f,C,d,VR.ext d.ext _ ti⟩
theorem Nj{n j:Nat}{xs:List V}{k:List Nat}{l:List (List Nat)}(hn:J[n]?=JS (.list xs))(hl:strsOf xs=JS l)(hj:l.findIdx? (zR k)=JS j)(hs:short xs=JQ):Call F (.bi .dY) [.ref n,.str k] J (.ok (.int j) J):=by
 refine⟨λ{A f C s xY vals}r zz hf hv=>?_⟩;cases hf;obtain⟨_,r0,rfl,⟨a,fa,rfl⟩,wv,r1,rfl,⟨t,rfl⟩,hr⟩:=hv;cases hr;obtain⟨w,items,ep,g,xA⟩:=xf r fa hn;obtain hlen:=xA.length;replace hlen:=J8.symm.trans hlen;obtain⟨z1,z2⟩:=kS (k:=k) (t:=t) xA hl;obtain hq:=qx hs;obtain e1:(items.toList.map (rW k)).findIdx? id=JS j:=by rewrite[z2];rw[Et];exact hj
 rw[Et]at e1;obtain⟨yN,a1,a2⟩:=List.findIdx?_eq_some_iff_getElem.mp e1;rw[J8]at yN;refine call_meets G' (⟨_,g,rfl⟩:s.TypeIs (.ref a) "list") PySem.F.entry_list_index (PySem.F.args_list_index_2 _ _) (MeetsSeq.list_index a items ep (.str (tx k) t) (rW k) (λy hy=>z1 y (Ie.mpr hy)) j yN (by lia) (by simpa using a1) λm hm PT=>?_) ⟨g,xp r ⟨_,rfl⟩⟩;simpa using a2 m PT
end
open PySem PySem.W PySem.Calls PyProof.Rows
section
variable{f:FM}{C:OW}{h:Im}
noncomputable def KV(f:FM)(C:OW)(h:Im):List (List Nat×V)->List (Str×JM)->Prop|[],ks=>ks=[]|(k,v)::es,ks=>X2 λw r=>C3 (ks=(tx k,w)::r) (VR f C h v w) (KV f C h es r)
theorem KV.of:∀{es:List (List Nat×V)}{kvs:List (Str×JM)},kvs.map (·.1)=es.map (fun p=>tx p.1)→zS f C h (es.map (·.2)) (kvs.map (·.2))→KV f C h es kvs|[],[],zo,zY=>rfl|[],zo::zY,e,zH=>by simp at e|zo::zY,[],e,zH=>by simp at e|(k,v)::es,(k',w)::r,e,⟨w',r',e1,e2,e3⟩=>by simp only[It,Ef]at e e1;obtain⟨rfl,e⟩:=e;obtain⟨rfl,rfl⟩:=e1;exact⟨_,_,rfl,e2,KV.of e e3⟩
theorem KV.len:∀{es:List (List Nat×V)}{kvs:List (Str×JM)},KV f C h es kvs->kvs.length=es.length|[],zo,e=>by cases e;rfl|zo::zY,zH,⟨w,r,e,ya,e2⟩=>by subst e;simp[KV.len e2]
theorem KV.at{k:List Nat}{v:V}:∀{es:List (List Nat×V)}{kvs:List (Str×JM)},KV f C h es kvs->zG k es=JS v->∃w,valueAt kvs (tx k)=JS w/\VR f C h v w
|[],zo,e,q=>by cases q
|(c,u)::es,zo,⟨w,r,e,e1,e2⟩,q=>by
 subst e;unfold zG at q;cases z:zR k c with
 |true=>rw[z]at q;cases q;rw[xj.mp z];exact⟨w,by simp[valueAt],e1⟩
 |false=>
  rw[z]at q;have ne:¬tx c=tx k:=λy=>by rw[xj.mpr (mj y).symm]at z;cases z
  obtain⟨w',a1,a2⟩:=KV.at e2 q;exact⟨w',by simpa[valueAt,ne]using a1,a2⟩
theorem KV.mem{k:List Nat}:∀{es:List (List Nat×V)}{kvs:List (Str×JM)},KV f C h es kvs→tx k∈kvs.map (·.1)→k∈es.map (·.1)
|[],zo,e,m=>by cases e;simp at m
|(c,v)::es,zo,⟨w,r,e,e1,e2⟩,m=>by
 subst e;rw[It]at m⊢;rcases JJ.mp m with q|q;·rw[mj q];exact JH
 ·exact J2 _ (KV.mem e2 q)
theorem KV.del{k:List Nat}:∀{es:List (List Nat×V)}{kvs:List (Str×JM)},KV f C h es kvs→(es.map (·.1)).Nodup→KV f C h (sq k es) (without kvs (tx k))
|[],zo,e,zY=>by cases e;rfl
|(c,v)::es,zo,⟨w,r,e,e1,e2⟩,nd=>by
 subst e;rw[It,Ia]at nd;unfold sq;cases q:zR k c with
 |true=>
  rw[xj.mp q];have:without ((tx c,w)::r) (tx c)=r:=by show List.filter _ _=_;rw[Ib];simp only[ne_eq,not_true_eq_false,decide_false,Iv,if_false];exact without_of_not_mem r (tx c) fun m=>nd.1 (KV.mem e2 m)
  rw[this];exact e2
 |false=>
  have ne:¬tx c=tx k:=fun z=>by rw[xj.mpr (mj z).symm]at q;cases q
  refine⟨w,without r (tx k),?_,e1,KV.del e2 nd.2⟩;show List.filter _ _=_;rw[Ib];simp only[ne_eq,ne,not_false_eq_true,decide_true,if_true];rfl
theorem ZG{k c:List Nat}:∀{es:List (List Nat×V)},c∈(sq k es).map (·.1)→c∈es.map (·.1)
|[],m=>m
|(a,v)::es,m=>by
 unfold sq at m;rw[It];cases q:zR k a with
 |true=>rw[q]at m;exact J2 _ m
 |false=>
  rw[q]at m;dsimp only at m;rw[It]at m;rcases JJ.mp m with z|z;·rw[z];exact JH
  ·exact J2 _ (ZG z)
theorem ZH{k:List Nat}:∀{es:List (List Nat×V)},(es.map (·.1)).Nodup→((sq k es).map (·.1)).Nodup|[],h=>h|(a,v)::es,h=>by rw[It,Ia]at h;unfold sq;cases q:zR k a with|true=>exact h.2|false=>dsimp only;rewrite[It];rw[Ia];exact⟨fun z=>h.1 (ZG z),ZH h.2⟩
theorem KV.put{k:List Nat}{v:V}{w:JM}(hv:VR f C h v w):∀{es:List (List Nat×V)}{kvs:List (Str×JM)},KV f C h es kvs→(es.map (·.1)).Nodup→KV f C h (dput k v es) (stored kvs (tx k) w)
|[],zo,e,zY=>by cases e;exact⟨w,[],rfl,hv,rfl⟩
|(c,u)::es,zo,⟨w',r,e,e1,e2⟩,nd=>by
 subst e;rw[It,Ia]at nd;have ih:=KV.put (k:=k) hv e2 nd.2;unfold dput;cases q:zR k c with
 |true=>rw[xj.mp q];refine⟨w,r,?_,hv,e2⟩;have hn:tx c∉r.map (·.1):=fun m=>nd.1 (KV.mem e2 m);unfold stored;rw[if_pos (by simp)];rewrite[It];rewrite[if_pos rfl];rw[map_store_of_not_mem r _ _ hn]
 |false=>
  have ne:¬tx c=tx k:=fun z=>by rw[xj.mpr (mj z).symm]at q;cases q
  refine⟨w',stored r (tx k) w,?_,e1,ih⟩;unfold stored;rw[List.any_cons];simp only[ne,decide_false,Gj];split;·rewrite[It];rw[if_neg ne]
  ·rfl
theorem KV.merge:∀{fs es:List (List Nat×V)}{kvs more:List (Str×JM)},KV f C h es kvs→KV f C h fs more→(es.map (·.1)).Nodup→KV f C h (fs.foldl (fun d p=>dput p.1 p.2 d) es) (merged kvs more)|[],zo,zY,zH,e,e',ya=>by cases e';exact e|(k,v)::fs,es,kvs,zo,e,⟨w,r,e1,e2,e3⟩,nd=>by subst e1;show KV f C h (fs.foldl (fun d p=>dput p.1 p.2 d) (dput k v es)) (merged (stored kvs (tx k) w) r);exact KV.merge (KV.put (k:=k) e2 e nd) e3 (mB nd)
theorem DR.of{prog:Program}{w:World}:∀{es:List (List Nat×V)}{ws:List Ig}{kvs:List (Str×JM)},Pairs (strKind prog w) ws kvs->(∀e∈ws,∃k,(strKind prog w).is k e.key=JQ/\e.hash=(strKind prog w).hash k)->KV f C h es kvs->DR w.params f C h es ws|[],zo,zY,p,zH,e=>by cases e;cases p;rfl|(k,v)::es,zo,zY,p,hk,⟨w',r,e,e1,e2⟩=>by subst e;cases p with|@cons en kv ws kvs h1 h2 h3=>obtain⟨t,ht⟩:=HH h1;obtain⟨k',eW,nh⟩:=hk en JH;have:k'=tx k:=(strKind prog w).inj _ _ _ eW h1;subst this;obtain⟨eh,ek,ev⟩:=en;dsimp only at ht nh h2;subst ht;subst nh;subst h2;exact⟨t,_,ws,rfl,e1,DR.of h3 (λe he=>hk e (J2 _ he)) e2⟩
end
section
variable{F:Fr}{A:Ip}{f:FM}{C:OW}{J zt zb yO zy:St}{s:JI}{h h':Im}{L:Loc}
theorem fy{b:Bc}{es:List (List Nat×V)}{ents:Array Ig}{ep:Nat}{a:J0}(dr:DR b.w.params f C h es ents.toList)(nd:(es.map (·.1)).Nodup)(g:h.get? a=JS (xu ents ep)):∃kvs:List (Str×JM),h.DictOf (strKind b.prog b.w) a kvs∧KV f C h es kvs:=by obtain⟨kvs,hm,k1,k2,_⟩:=qu dr nd g;exact⟨kvs,hm.dictOf,KV.of k1 k2⟩
theorem Z9{n:Nat}{a:J0}{es:List (List Nat×V)}{kvs:List (Str×JM)}{tk:Nat}(z9:F.s=JT)(r:Rl F.b f C J s.heap)(fa:f n=JS a)(w:C a=JS n)(hs:IC a s.heap h')(hd:h'.DictOf (strKind F.b.prog F.b.w) a kvs)(e:KV f C s.heap es kvs)(nd:(es.map (·.1)).Nodup):Done F [] f C s (J.set n (.dict es)) f C {s with heap:=h',toks:=tk}:=by obtain⟨⟨c,d,dt,sl⟩,ents,ep,g,⟨e1,e2,e3⟩,Y2,hk,hp,_⟩:=hd;dsimp only at e1 e2 e3 Y2;subst e1 e2 e3 Y2;exact ZC (tk:=tk) z9 r fa w hs g (DR.of hp (fun e he=>hk e (Ie.mp he)) e) nd
theorem ZE(fk:Facts F.b){n:Nat}{es:List (List Nat×V)}{a:J0}(r:Rl F.b f C J h)(fa:f n=JS a)(hn:J[n]?=JS (.dict es)\/J[n]?=JS (.v7 es)):(a==sysModules)=JT/\X2 λents ep=>h.get? a=JS (xu ents ep)/\DR F.b.w.params f C h es ents.toList:=by
 rcases hn with hn|hn;.obtain⟨w,ents,ep,g,dr,_⟩:=vk r fa hn;exact⟨beq_false_of_ne λe=>fk.sys (e▸r.fresh a n w),ents,ep,g,dr⟩
 .obtain⟨a',yt,ents,ep,g,dr,ns⟩:=r.objs n _ hn;replace yt:=yc fa yt;cases yt;exact⟨beq_false_of_ne ns,ents,ep,r.base _ _ g,dr⟩
theorem YG{b:Bc}{es:List (List Nat×V)}{ents:Array Ig}{k:List Nat}{d:V}{dv:JM}(m2:∀k,(∀v,zG k es=JS v->∃w,findBy (strKind b.prog b.w).is ents (tx k)=JS w/\VR f C h v w)/\(zG k es=none->findBy (strKind b.prog b.w).is ents (tx k)=none))(hd:VR f C h d dv):VR f C h ((zG k es).getD d) ((findBy (strKind b.prog b.w).is ents (tx k)).getD dv):=by cases q:zG k es with|none=>rw[(m2 k).2 q];exact hd|some v=>obtain⟨w,h1,h2⟩:=(m2 k).1 v q;rw[h1];exact h2
theorem qe{n:Nat}{es:List (List Nat×V)}{k:List Nat}(hn:J[n]?=JS (.dict es)\/J[n]?=JS (.v7 es)):Call F (.bi .zG) [.ref n,.str k] J (.ok ((zG k es).getD .none) J):=by refine⟨λ{A f C s xY vals}r ak hf hv=>?_⟩;cases hf;obtain⟨_,r0,rfl,⟨a,fa,rfl⟩,wv,r1,rfl,⟨t,rfl⟩,hr⟩:=hv;cases hr;obtain⟨ns,ents,ep,g,dr⟩:=ZE ak.ok r fa hn;obtain⟨m1,m2⟩:=i_ dr g;exact call_meetsIn HQ (⟨_,g,rfl⟩:s.TypeIs (.ref a) "dict") Ft (PySem.F.args_dict_get_2 _ _) (meets_dict_get (strKind _ _) a (strKind_is _ _ (tx k) t) ns) ⟨_,m1,xp r (YG m2 (d:=.none) rfl)⟩
theorem lC{n:Nat}{es:List (List Nat×V)}{k:List Nat}{d:V}(hn:J[n]?=JS (.dict es)\/J[n]?=JS (.v7 es)):Call F (.bi .zG) [.ref n,.str k,d] J (.ok ((zG k es).getD d) J):=by refine⟨λ{A f C s xY vals}r ak hf hv=>?_⟩;cases hf;obtain⟨_,r0,rfl,⟨a,fa,rfl⟩,wv,r1,rfl,⟨t,rfl⟩,dv,r2,rfl,hd,hr⟩:=hv;cases hr;obtain⟨ns,ents,ep,g,dr⟩:=ZE ak.ok r fa hn;obtain⟨m1,m2⟩:=i_ dr g;exact call_meetsIn HQ (⟨_,g,rfl⟩:s.TypeIs (.ref a) "dict") Ft (PySem.F.args_dict_get_3 _ _ _) (meets_dict_get_default (strKind _ _) a (strKind_is _ _ (tx k) t) ns dv) ⟨_,m1,xp r (YG m2 hd)⟩
theorem Wq{n:Nat}{es:List (List Nat×V)}{k:List Nat}{v:V}(z9:F.s=JT)(hn:J[n]?=JS (.dict es))(hk:zG k es=JS v)(hs:short es=JQ):Call F (.bi .ft) [.ref n,.str k] J (.ok v (J.set n (.dict (sq k es)))):=by refine⟨λ{A f C s xY vals}r ak hf hv=>?_⟩;cases hf;obtain⟨_,r0,rfl,⟨a,fa,rfl⟩,wv,r1,rfl,⟨t,rfl⟩,hr⟩:=hv;cases hr;obtain⟨w,ents,ep,g,dr,nd⟩:=vk r fa hn;obtain⟨kvs,d1,d2⟩:=fy dr nd g;obtain⟨wv,h3,h4⟩:=d2.at hk;refine call_meetsIn Fm (⟨_,g,rfl⟩:s.TypeIs (.ref a) "dict") PySem.F.entry_dict_pop (PySem.F.args_dict_pop_2 _ _) (meets_dict_pop_there (strKind _ _) a (strKind_is _ _ (tx k) t) [] (.inl rfl) rfl) ⟨kvs,wv,d1,by rw[d2.len];exact vO hs,h3,λh' hm hb=>?_⟩;obtain d:=Z9 (tk:=s.toks+1) z9 r fa w hb hm (KV.del d2 nd) (ZH nd);exact⟨f,C,d,VR.ext d.ext _ h4⟩
theorem NX{n m:Nat}{es fs:List (List Nat×V)}(z9:F.s=JT)(hn:J[n]?=JS (.dict es))(hm:J[m]?=JS (.dict fs))(wU:m≠n)(hs:short (es++fs)=JQ):Call F (.bi .m9) [.ref n,.ref m] J (.ok .none (J.set n (.dict (u2 fs es)))):=by
 refine⟨λ{A f C s xY vals}r ak hf hv=>?_⟩;cases hf;obtain⟨_,r0,rfl,⟨a,fa,rfl⟩,wv,r1,rfl,⟨c,fc,rfl⟩,hr⟩:=hv;cases hr;obtain⟨w,ents,ep,g,dr,nd⟩:=vk r fa hn;obtain⟨w',wV,yW,g',mA,NN⟩:=vk r fc hm;obtain⟨kvs,d1,d2⟩:=fy dr nd g;obtain⟨more,e1,e2⟩:=fy mA NN g';obtain hq:=vO hs;rw[JO]at hq;obtain ne:a≠c:=λz=>by subst z;replace w':=yc w w';cases w';exact wU rfl
 refine call_meetsIn G5 (⟨_,g,rfl⟩:s.TypeIs (.ref a) "dict") PySem.F.entry_dict_update (PySem.F.args_dict_update_2 _ _) (meets_dict_update (strKind _ _) a c ne (nF ak.ok r w')) ⟨kvs,more,d1,e1,by rewrite[d2.len];rw[e2.len];exact hq,λh' jF zz hb=>?_⟩;exact⟨f,C,Z9 (tk:=s.toks) z9 r fa w hb jF (KV.merge d2 e2 nd) (jZ nd),rfl⟩
end
open PySem PySem.W PySem.Calls PyProof.Rows
section
variable{F:Fr}{A:Ip}{f:FM}{C:OW}{J zt zb yO zy:St}{s:JI}{h h':Im}{L:Loc}
set_option tactic.hygienic true in theorem WI{c:J0}{oc:Obj}(hc:h.get? c=JS oc):Frag.In [(c,oc)] h:=λa o q=>by
 replace q:=Hp.symm.trans q;split at q;.rename_i z;cases q;rw[beq_iff_eq.mp z];exact hc
 .cases q
theorem WJ{c:J0}{oc:Obj}{cd:ClassData}(tP:oc.data=.cls cd):clsIn [(c,oc)] c=JS cd:=by unfold clsIn;rewrite[Hp];rw[beq_self_eq_true];obtain⟨o1,o2,o3,o4⟩:=oc;dsimp only at tP⊢;subst tP;rfl
theorem WH{c:J0}{oc:Obj}{cd:ClassData}{v:JM}(tP:oc.data=.cls cd)(hv:cd.mro.contains v=JQ):mroIn [(c,oc)] c v=JS JQ:=by unfold mroIn;rewrite[WJ tP];rewrite[HM];rewrite[if_neg];rw[hv];intro z;rw[Fz.mp z]at hv;cases hv
theorem Ru{M:Model}{A:Ip}{s:JI}{e c:J0}{x:JM}{cn:String}{Q:Unit->JI->Prop}{Z:JM->JI->Prop}(L0:Looks M s.heap (typeOf (.ref e)) (.ref c))(L1:Looks M s.heap (isInstance (.ref e) (.type "ValueError")) JQ)(L2:Looks M s.heap (typeNameWhole (.ref c)) cn)(hq:Q () s):wpAny M A (checkBuiltinCall "ValueError.__init__" ⟨[.ref e,x],[]⟩) Q Z s:=by have FX:=Hf;simp only[checkBuiltinCall,FX.initKind,FX.initSplit,FX.initRow];refine JR (L1.here ?_);simp only[FC,Iv,if_false];unfold Bind.checkArgs;dsimp only;refine JR (m:=Bind.printed "*" JQ _ _) ?_;unfold Bind.printed Bind.receiverType;rw[if_neg (by decide)];dsimp only;rw[if_neg (by decide)];refine JR (L0.here (JR (L2.here (JL ?_))));refine JR (m:=if("ValueError"!="*")=JQ then _ else _) ?_;rw[if_pos (by decide)];refine JL ?_;show wpAny _ _ (Sem.onRaise (Bind.check _ _ "ValueError" _ []) _) _ _ _;rw[check_varPos];exact JL hq
theorem Ry{n c:Nat}{t:Bool}{fs:List (Nat×V)}{str:List Nat}(z9:F.s=JT)(hn:J[n]?=JS (.exc c t fs)):Call F (.bi .bw) [.ref n,.str str] J (.ok .none J):=by
 refine⟨fun{A f C s xY vals}r ak hf hv=>?_⟩;cases hf;obtain⟨w1,r1,rfl,⟨e,fe,rfl⟩,⟨w2,r2,rfl,⟨tk,rfl⟩,hr⟩⟩:=hv;cases hr;obtain FX:=Hf;obtain⟨e',fR,w,wO,vs,g,sz,q⟩:=r.objs n _ hn;replace fR:=yc fe fR;cases fR;obtain⟨oc,cd,hc,tP,jB,_⟩:=sz.3;obtain wb:=r.base _ _ hc;obtain XK:=WI wb;obtain L0:Looks (model F.b.prog F.b.w) s.heap (typeOf (.ref e)) (.ref c):=(Eu g).andThen .now;obtain L1:Looks (model F.b.prog F.b.w) s.heap (isInstance (.ref e) (.type "ValueError")) JQ:=L0.andThen (looks_mroIn XK (WH tP jB));obtain L2:Looks (model F.b.prog F.b.w) s.heap (typeNameWhole (.ref c)) cd.name.toString:=(looks_clsIn XK (WJ tP)).andThen .now;refine GP (Gg FX.init.plain FX.initEntry (Ru L0 L1 L2 ?_));unfold Builtin.«BaseException.__init__»;dsimp only;rw[if_neg (by simp)];unfold newTuple Eh;obtain uy:0<vs.size:=by obtain this:=sz.1;lia
 obtain⟨a0,h0⟩:∃a0,vs[0]?=JS a0:=⟨vs[0],GI uy⟩;obtain gr:=xE s.heap (⟨.type "tuple",none,.seq #[.str (tx str) tk],#[]⟩:Obj);refine JR (Hj (JR (JR (H5 (gr _ _ g) rfl h0 (JR (GV (gr _ _ g) rfl uy ?_))))) (by show 1≤sizeLine;decide));have fin:∀{s':JI},s'={s with heap:=(s.heap.push (⟨.type "tuple",none,.seq #[.str (tx str) tk],#[]⟩:Obj)).update e (I9 (·.setIfInBounds 0 (.ref s.heap.objs.size)))}→PO F rV f C s (.ok .none J) .none s':=by
  rintro s' rfl;obtain d1:=jb (F:=F) (fr:=[]) r (⟨.type "tuple",none,.seq #[.str (tx str) tk],#[]⟩:Obj);obtain hs:=Ir (s.heap.push (⟨.type "tuple",none,.seq #[.str (tx str) tk],#[]⟩:Obj)) e (I9 (·.setIfInBounds 0 (.ref s.heap.objs.size)));have g':((s.heap.push (⟨.type "tuple",none,.seq #[.str (tx str) tk],#[]⟩:Obj)).update e (I9 (·.setIfInBounds 0 (.ref s.heap.objs.size)))).get? e=JS ⟨.ref c,wO,.fields (vs.setIfInBounds 0 (.ref s.heap.objs.size)),#[]⟩:=Ih _ (gr _ _ g) rfl;obtain ex:Ext [] f C (s.heap.push (⟨.type "tuple",none,.seq #[.str (tx str) tk],#[]⟩:Obj)) f C _:=Ext.write hs w ⟨_,g'⟩;obtain eJ:qK f C ((s.heap.push (⟨.type "tuple",none,.seq #[.str (tx str) tk],#[]⟩:Obj)).update e (I9 (·.setIfInBounds 0 (.ref s.heap.objs.size)))) n e fs wO:=by cases wO with|none=>exact q|some dx=>obtain⟨w',ne,m,⟨o,es,ep,z,z1,z2,z3,z4⟩,hf⟩:=q;exact⟨w',ne,m,⟨o,es,ep,(hs.2 dx ne).trans (gr _ _ z),z1,z2,z3,z4⟩,FR.yn ex.v (FR.yn d1.ext.v hf)⟩
  obtain rw:=d1.rel.write hs w ⟨_,g'⟩ fe (o:=.exc c t fs) ⟨w,wO,_,g',⟨by rw[HF];exact sz.1,fun z=>by simpa[Array.getElem?_setIfInBounds]using sz.2 z,sz.3⟩,eJ⟩;rw[set_same hn]at rw;exact⟨f,C,d1.trans ⟨ex,rw,rfl,rfl,fun z=>by replace z:=z9.symm.trans z;cases z⟩,rfl⟩
 split;·exact wpAny_letGo (JL (fin rfl))
 ·exact JL (JL (fin rfl))
theorem tf{n c zP:Nat}{fs:List (Nat×V)}{t:Bool}(hn:J[n]?=JS (.inst c fs))(hc:qW c)(hC:ud zP)(hs:prog.sub c zP=t):Call F (.bi .isinstance) [.ref n,.cl zP] J (.ok (.bool t) J):=by refine⟨λ{A f C s xY vals}r ak hf hv=>?_⟩;cases hf;obtain⟨w1,r1,rfl,⟨a,fa,rfl⟩,⟨w2,r2,rfl,rfl,hr⟩⟩:=hv;cases hr;obtain X':=ak.ok.yQ.keeps r.base;obtain⟨a',ox,od,yt,IA,_⟩:=iz r hn;replace yt:=yc fa yt;cases yt;obtain⟨o1,o2,o3,o4⟩:=ak.ok.cy c hc;subst hs;cases hs:prog.sub c zP with|true=>exact isi_call X' (λM=>IA.type) (ak.ok.yes c zP hc hC hs) (by intro q;cases q) (xp (t:=s.toks) r rfl)|false=>exact kin_callC X' IA (ak.ok.no c zP hc hC hs) o1 o2 o3 ak.ok.gs.1 ak.ok.gs.2 o4 (xp r rfl)
theorem pQ{n c:Nat}{T:Ty}{fs:List (Nat×V)}(hn:J[n]?=JS (.inst c fs))(hc:qW c)(hT:Io T.ctorIdx 3=JQ):Call F (.bi .isinstance) [.ref n,.ty T] J (.ok (.bool JT) J):=by refine⟨λ{A f C s xY vals}r ak hf hv=>?_⟩;cases hf;obtain⟨w1,r1,rfl,⟨a,fa,rfl⟩,⟨w2,r2,rfl,rfl,hr⟩⟩:=hv;cases hr;obtain X':=ak.ok.yQ.keeps r.base;obtain⟨a',ox,od,yt,IA,_⟩:=iz r hn;replace yt:=yc fa yt;cases yt;obtain⟨o1,o2,o3,o4⟩:=ak.ok.cy c hc;obtain⟨n1,n2,n3⟩:=ak.ok.nt c hc;cases T with|bool=>exact kin_callT (T:="bool") X' IA n3 meta_bool o1 o2 o3 ak.ok.gs.1 ak.ok.gs.2 o4 (xp r rfl)|int=>exact kin_callT (T:="int") X' IA n1 meta_int o1 o2 o3 ak.ok.gs.1 ak.ok.gs.2 o4 (xp r rfl)|str=>exact kin_callT (T:="str") X' IA n2 meta_str o1 o2 o3 ak.ok.gs.1 ak.ok.gs.2 o4 (xp r rfl)|_=>cases hT
end
open PySem PySem.W PySem.Calls PyProof.Rows
noncomputable def uQ:Nat->List Nat:=λn=>(Nat.toDigits 10 n).map Char.toNat
theorem Rh{i:Int}(h:0<=i):tx (uQ i.toNat)=Ij (toString i):=by obtain⟨n,rfl⟩:=Fy h;obtain e:toString (n:Int)=String.ofList (Nat.toDigits 10 n):=rfl;rewrite[e];rw[Str.ofString_eq_toList];unfold tx uQ;simp[HO]
noncomputable def mq:List V->Option Int|[]=>JS 0|.int i::r=>(mq r).map (i+.)|_=>none
section
variable{F:Fr}{A:Ip}{f:FM}{C:OW}{J zt zb yO zy:St}{s:JI}{h h':Im}{L:Loc}
set_option tactic.hygienic true in theorem VF:∀{vs:List V}{ws:List JM}{t:Int},zS f C h vs ws->mq vs=JS t->(∀v∈ws,∃a,∃t,v=.int a t)/\(numsOf ws).sum=t
|[],zo,t,e,h=>by cases e;cases h;exact⟨λzz q=>(nomatch q),rfl⟩
|v::vs,zo,t,⟨w,r,e,e1,e2⟩,h=>by
 subst e;cases v<;>first|cases h|skip
 rename_i i;obtain⟨t',rfl⟩:=e1;obtain⟨j,h1,rfl⟩:=JB.mp (show(mq vs).map (i+.)=JS t from h);obtain⟨i1,i2⟩:=VF e2 h1;refine⟨λv hv=>?_,?_⟩
 .rcases JJ.mp hv with rfl|hv;.exact⟨_,_,rfl⟩
  .exact i1 v hv
 .show(i::numsOf r).sum=_;rewrite[List.sum_cons];rw[i2]
theorem pj{n:Nat}{xs:List V}(hn:J[n]?=JS (.list xs))(hs:short xs=JQ):Call F (.bi .len) [.ref n] J (.ok (.int xs.length) J):=by refine⟨λ{A f C s xY vals}r zz hf hv=>?_⟩;cases hf;obtain⟨w1,r1,rfl,⟨a,fa,rfl⟩,hr⟩:=hv;cases hr;obtain⟨_,items,ep,g,xA⟩:=xf r fa hn;obtain hl:=xA.length;rw[J8]at hl;obtain z:=qx hs;refine len_list (items:=items) ⟨_,g,rfl,ep,rfl⟩ (by lia) ?_;rw[hl];exact xp r ⟨_,rfl⟩
theorem R8{n:Nat}{xs:List V}{t:Int}(hq:F.q=JT)(hn:J[n]?=JS (.list xs))(ht:mq xs=JS t):Call F (.bi .sum) [.ref n] J (.ok (.int t) J):=by refine⟨λ{A f C s xY vals}r ak hf hv=>?_⟩;cases hf;obtain⟨w1,r1,rfl,⟨a,fa,rfl⟩,hr⟩:=hv;cases hr;obtain⟨_,items,ep,g,xA⟩:=xf r fa hn;obtain⟨s1,s2⟩:=VF xA ht;obtain⟨ys,rfl⟩:=AllInts.items (vs:=items) λv hv=>s1 v (Ie.mpr hv);rw[nums_intItems]at s2;refine sum_intListG (ak.hand hq) (xs:=ys) ⟨_,g,rfl,ep,rfl⟩ λh' tk t' hk=>?_;rewrite[preSum_eq];rewrite[List.take_of_length_le (by simp)];rw[s2];exact⟨f,C,Done.grow r hk rfl rfl,⟨_,rfl⟩⟩
theorem RC{i:Int}:Call F (.bi .abs) [.int i] J (.ok (.int i.natAbs) J):=by
 refine⟨λ{A f C s xY vals}r ak hf hv=>?_⟩;cases hf;obtain⟨w1,r1,rfl,⟨t,rfl⟩,hr⟩:=hv;cases hr;refine call_abs_int λu tk=>?_;obtain this:(if i<0 then-i else i)=(i.natAbs:Int):=by split<;>lia
 rw[this];exact xp r ⟨_,rfl⟩
theorem YY{b:Bool}:Call F (.ty .int) [.bool b] J (.ok (.int (if b then 1 else 0)) J):=by refine⟨λ{A f C s xY vals}r ak hf hv=>?_⟩;cases hf;obtain⟨w1,r1,rfl,rfl,hr⟩:=hv;cases hr;exact call_int_bool (xp r ⟨_,rfl⟩)
theorem YX{i:Int}(h0:0<=i)(hs:small i=JQ):Call F (.ty .str) [.int i] J (.ok (.str (uQ i.toNat)) J):=by
 refine⟨λ{A f C s xY vals}r ak hf hv=>?_⟩;cases hf;obtain⟨w1,r1,rfl,⟨t,rfl⟩,hr⟩:=hv;cases hr;obtain hs:=VT hs;refine PySem.P.str_of_int ?_ (xp r ⟨s.toks,?_⟩)
 .obtain this:i.natAbs<2^1920:=GL (show i.natAbs<=2^60 by lia) (Nat.pow_lt_pow_right (by decide) (by decide));by_cases z:i.natAbs=0;.rw[z];decide
  .exact(Nat.log2_lt z).mpr this
 .rw[Rh h0]
theorem V2:∀{vs:List V}{ws:List JM},ws.length=vs.length->(∀(j:Nat)(v:V)(w:JM),vs[j]?=JS v->ws[j]?=JS w->VR f C h v w)->zS f C h vs ws|[],[],zo,zY=>rfl|[],zo::zY,e,zH|ya::xk,[],e,vR=>by cases e|v::vs,w::ws,e,hj=>⟨w,ws,rfl,hj 0 v w rfl rfl,V2 (I1 e) λj v' w' e1 e2=>hj (j+1) v' w' e1 e2⟩
theorem RA{n:Nat}{es:List (List Nat×V)}(hq:F.q=JT)(hn:J[n]?=JS (.dict es))(hs:short es=JQ):Call F (.ty .list) [.ref n] J (.ok (.ref J.length) (J++[.list (es.map fun p=>.str p.1)])):=by
 refine⟨fun{A f C s xY vals}r ak hf hv=>?_⟩;cases hf;obtain⟨w1,r1,rfl,⟨a,fa,rfl⟩,hr⟩:=hv;cases hr;obtain⟨w,ents,ep,g,dr,nd⟩:=vk r fa hn;obtain⟨kvs,d1,d2,d3,d4,d5⟩:=qu dr nd g;refine kdl_call (kdl_dict (kvs:=kvs) (ep:=ep) (nF ak.ok r w)) (ak.hand hq) d1 (by rw[d4];exact vO hs) fun h' tk acc c' hk hD Y9=>?_;obtain vr:zS f C h' (es.map fun p=>V.str p.1) acc.toList:=by
  refine V2 (by rewrite[J8];rewrite[Y9.1];rewrite[d4];rw[JN]) fun j v w e1 e2=>?_;rw[Iu]at e2;obtain⟨k,x',hx,wh⟩:=Y9.2 j w e2;obtain⟨t,rfl⟩:=HH wh;obtain e3:(kvs.map (·.1))[j]?=JS k:=by rewrite[JF];rw[hx];rfl
  rw[d2,JF]at e3;rw[JF]at e1;obtain⟨p,z,rfl⟩:=JB.mp e1;rw[z]at e3;cases e3;exact⟨t,rfl⟩
 obtain nl:s.heap.get? s.heap.objs.size=none:=tq (JK _);refine⟨_,_,pq (s':={s with heap:=h',toks:=tk}) (a:=s.heap.objs.size) (l:=[s.heap.objs.size]) (m:=.list (es.map fun p=>.str p.1)) r hk rfl rfl (fun c hc=>by rw[JP.mp hc];exact⟨nl,_,hD⟩) ⟨tE JH,acc,c',hD,?_⟩,_,t8,rfl⟩;exact zS.yn ⟨i9 r,fun c e n=>⟨rfl,(tD fun q=>by rw[JP.mp q]at e;exact uw hD rfl e).trans n⟩⟩ _ vr
theorem Nv{M:Model}{a:J0}{o:Obj}(g:h.get? a=JS o):Looks M h (isType (.ref a)) (match o.data with|.cls _=>JQ|_=>JT):=λA Q E s k q=>by unfold isType loadHead;exact JR (GO (k _ _ g) (JL q))
theorem Lx{n c:Nat}{fs:List (Nat×V)}(hq:F.q=JT)(hn:J[n]?=JS (.exc c JT fs)):bS F n c fs J:=λ{A f C s a env}r ak fa=>by
 obtain hh:=ak.hand hq;obtain⟨a',yt,w,wO,vs,g,sz,q⟩:=r.objs n _ hn;replace yt:=yc fa yt;cases yt;obtain⟨oc,cd,hc,tP,jB,QC,P1⟩:=sz.3;obtain wb:=r.base _ _ hc;obtain XK:=WI wb;obtain L0:Looks (model F.b.prog F.b.w) s.heap (typeOf (.ref a)) (.ref c):=(Eu g).andThen .now;obtain L1:Looks (model F.b.prog F.b.w) s.heap (isInstance (.ref a) (.type "BaseException")) JQ:=L0.andThen (looks_mroIn XK (WH tP QC));obtain L2:Looks (model F.b.prog F.b.w) s.heap (isType (.ref a)) JT:=Nv g;obtain L3:Looks (model F.b.prog F.b.w) s.heap (typeOf (.ref c)) (.type "type"):=P1▸qf wb;obtain L4:Looks (model F.b.prog F.b.w) s.heap (isExcClass (.ref a)) JT:=by unfold isExcClass;refine L2.andThen ?_;rw[if_neg IZ];exact .now
 unfold raiseStmt;refine JR (JL (JR (JL (JR (JE ?_)))));unfold excFromValue;refine JR (L4.here ?_);rw[if_neg IZ];refine JR (L1.here ?_);rw[if_pos rfl];refine JL ?_;dsimp only;refine JR (L2.here ?_);rw[if_neg IZ];refine JR ?_;unfold raisedInstance;refine JR (L0.here (JR (L3.here ?_)));rw[if_pos (by decide)];refine JL (JR ?_);unfold setFlight;refine JR (H5 g rfl (sz.2 rfl) ?_);rw[if_neg (by decide)];refine JL (wpAny_raiseNew_none hh ⟨rfl,?_,⟨_,vs,g,rfl,sz.1,.inl (sz.2 rfl)⟩⟩);exact⟨Ext.refl,r.write (o:=.exc c JQ fs) (⟨rfl,λzz zz=>rfl⟩:IC a s.heap s.heap) w ⟨_,g⟩ fa ⟨w,wO,vs,g,⟨sz.1,(λz=>nomatch z),sz.3⟩,q⟩,rfl,rfl,λzz zz zz zz zz e=>e⟩
theorem NT{n c:Nat}{t:Bool}{fs:List (Nat×V)}(hn:J[n]?=JS (.exc c t fs))(hs:prog.sub c prog.su=JQ):bU F n J:=λ{A f C s a}fk r fa=>by obtain⟨a',yt,w,wO,vs,g,sz,q⟩:=r.objs n _ hn;replace yt:=yc fa yt;cases yt;have L0:Looks (model F.b.prog F.b.w) s.heap (typeOf (.ref a)) (.ref c):=(Eu g).andThen .now;exact(exm_one (fk.yQ.keeps r.base) L0 (fk.Yb c hs)).here ⟨rfl,s.toks,rfl⟩
theorem x_raise{e:Mine.M}{n c:Nat}{fs:List (Nat×V)}(hq:F.q=JT)(h:E F L e J (.ok (.ref n) zt))(hn:zt[n]?=JS (.exc c JT fs)):X1 F L (.raise e) J (.exc (.ref n) L (zt.set n (.exc c JQ fs))):=KQ h hn (Lx hq hn)
theorem KP{b:S}{x n c:Nat}{t:Bool}{fs:List (Nat×V)}{eh:Mine.M}{v:V}{zN:Loc}(hb:XB F L b J (.exc (.ref n) zN zt))(hn:zt[n]?=JS (.exc c t fs))(hs:prog.sub c prog.su=JQ)(hh:E F.n_ (st x (.ref n) zN) eh zt (.ok v zb)):X1 F L (.try b x eh) J (.ok (.ret v) zN zb):=KO hb (NT hn hs) hh
end
open PySem PySem.W PySem.Calls PyProof.Rows
noncomputable def te:List Int->List Int->Bool|[],[]=>JT|[],zo::zY=>JQ|zo::zY,[]=>JT|a::r,b::t=>if a=b then te r t else decide (a<b)
noncomputable def runK{zi:Type}(lt:Nat->Nat->Option Bool):PySem.W.KasT zi->Option zi|.ret a=>JS a|.ask i j k=>match lt i j with|JS b=>runK lt (k b)|none=>none
noncomputable abbrev uS:=List Int×List Nat
noncomputable def xh(p:uS):V:=.tup [.tup (p.1.map V.int),.str p.2]
noncomputable def p7(ps:List uS)(i j:Nat):Option Bool:=match ps[i]?,ps[j]? with|JS x,JS y=>if x.1=y.1 then none else JS (te x.1 y.1)|zo,zY=>none
noncomputable def mw(ps:List uS):Option (List uS):=if ps.length<2 then JS ps else if ps.length<64 then(runK (p7 ps) (HL ps.length)).map λp=>p.toList.map λi=>ps.getD i ([],[])else none
section
variable{prog:Program}{w:World}{A:Ip}{E:JM->JI->Prop}{s:JI}{f:FM}{C:OW}{h:Im}
theorem XZ:∀{pi:List Int}{xs:List JM},zS f C h (pi.map V.int) xs->∃ts:List Tok,ts.length=pi.length/\xs=pi.zipWith (λi t=>HK i t) ts|[],zo,e=>by cases e;exact⟨[],rfl,rfl⟩|i::p,zo,⟨w,r,e,⟨t,e1⟩,e2⟩=>by subst e e1;obtain⟨ts,h2,rfl⟩:=XZ e2;exact⟨t::ts,by simp[h2],rfl⟩
theorem V7{body:JM×JM->Option Fw×Unit->Sem (ForInStep (Option Fw×Unit))}{R:Option Fw×Unit->JI->Prop}(hb:∀(i j:Int)(t u:Tok)(Q:ForInStep (Option Fw×Unit)->JI->Prop),(i=j->Q (.yield (none,())) s)->(i≠j->Q (.done (JS (.done (.ret (.bool (decide (i<j))))),())) s)->wpAny (model prog w) A (body (.int i t,.int j u) (none,())) Q E s):∀(p q:List Int)(ts us:List Tok),ts.length=p.length->us.length=q.length->(∀c,(p.length<q.length/\c=JQ\/¬p.length<q.length/\c=JT)->c=te p q->R (none,()) s)->(R (JS (.done (.ret (.bool (te p q)))),()) s)->wpAny (model prog w) A (forIn ((p.zipWith (λi t=>HK i t) ts).zip (q.zipWith (λi t=>HK i t) us)) (none,()) body) R E s
|[],q,ts,us,zo,hu,h1,h2=>by simp only[Fg,List.zip_nil_left,GQ];refine JL (h1 (te [] q) ?_ rfl);cases q with|nil=>exact .inr ⟨by simp,rfl⟩|cons=>exact .inl ⟨by simp,rfl⟩
|i::p,[],ts,us,zo,hu,h1,h2=>by simp only[Fg,List.zip_nil_right,GQ];exact JL (h1 (te (i::p) []) (.inr ⟨by simp,rfl⟩) rfl)
|i::p,j::q,t::ts,u::us,ht,hu,h1,h2=>by
 simp only[List.zipWith_cons_cons,List.zip_cons_cons,Ge];refine JR (hb i j t u _ (λe=>?_) λe=>?_);.subst e;have e:te (i::p) (i::q)=te p q:=if_pos rfl;rw[e]at h2;exact V7 hb p q ts us (by simpa using ht) (by simpa using hu) (λc hc wb=>h1 c (by simpa using hc) (by rw[e];exact wb)) h2
 .have e:te (i::p) (j::q)=decide (i<j):=if_neg e;rw[e]at h2;exact JL h2
|zo::zY,zH::ya,[],xk,ht,vR,uV,uB=>by simp at ht
|zo::zY,zH::ya,xk::vR,[],uV,hu,uB,s6=>by simp at hu
theorem L9{a c:J0}{oa oc:Obj}{n k:Nat}{p q:List Int}{ts us:List Tok}{P:Fw->JI->Prop}(ht:ts.length=p.length)(hu:us.length=q.length)(ha:s.heap.get? a=JS oa)(da:oa.data=.seq (p.zipWith (λi t=>HK i t) ts).toArray n)(hc:s.heap.get? c=JS oc)(cc:oc.cls=.type "tuple")(dc:oc.data=.seq (q.zipWith (λi t=>HK i t) us).toArray k)(h:P (.done (.ret (.bool (te p q)))) s):wpAny (model prog w) A (Builtin.«tuple.__lt__» ⟨[.ref a,.ref c],[]⟩) P E s:=by
 show wpAny _ _ (isInstance (.ref c) (.type "tuple")>>=_) _ _ s;refine JR (wpAny_isInstance ⟨_,hc,cc⟩ isSubtype_tuple_tuple ?_);simp only[FC,Iv,if_false];refine JR (wpAny_tupleItemsOf ha da ?_);refine JR (wpAny_tupleItemsOf hc dc ?_);refine JR (V7 (s:=s) (λi j t u Q h1 h2=>?_) p q ts us ht hu (λc wb Q7=>?_) ?_)
 .dsimp only;refine JR (wpAny_eqBool_int ?_);by_cases e:i=j
  .have e':(i==j)=JQ:=by simpa using e
   rw[e'];simp only[FC,Iv,if_false];exact JL (h1 e)
  .have e':(i==j)=JT:=by simpa using e
   rw[e'];simp only[EX,if_true];refine JR (Gq (JR ?_));show wpAny _ _ (compareOp .Lt (.int i t) (.int j u)) _ _ _;exact FJ (JR (JL (JL (h2 e))))
 .refine JL ?_;obtain e:Gu .Lt (p.zipWith (λi t=>HK i t) ts).toArray.size (q.zipWith (λi t=>HK i t) us).toArray.size=.bool (te p q):=by simp only[Gu,Hx,List.length_zipWith,ht,hu,Nat.min_self];rw[<-Q7];rcases wb with⟨z,rfl⟩|⟨z,rfl⟩<;>simp[z]
  rw[e];exact h
 .exact JL h
theorem LA{a c:J0}{oa oc:Obj}{n k:Nat}{p q:List Int}{ts us:List Tok}{Q:JM->JI->Prop}(hr:A.units<cLine)(ht:ts.length=p.length)(hu:us.length=q.length)(ha:s.heap.get? a=JS oa)(ca:oa.cls=.type "tuple")(da:oa.data=.seq (p.zipWith (λi t=>HK i t) ts).toArray n)(hc:s.heap.get? c=JS oc)(cc:oc.cls=.type "tuple")(dc:oc.data=.seq (q.zipWith (λi t=>HK i t) us).toArray k)(h:Q (.bool (te p q)) s):wpAny (model prog w) A (compareOp .Lt (.ref a) (.ref c)) Q E s:=by show wpAny _ _ (richCompare .Lt (.ref a) (.ref c)) _ _ _;refine wpAny_richCompare_same_room ⟨_,ha,ca⟩ ⟨_,hc,cc⟩ Ff ?_ hr;exact Gn Ff ⟨_,ha,ca⟩ PySem.F.entry_tuple_lt (L9 ht hu ha da hc cc dc ⟨_,rfl,by simp,h⟩) (PySem.F.args_tuple_lt_2 _ _)
theorem XG{zi:Type}{cmp:Nat->Nat->(Bool->JI->Prop)->JI->Prop}{lt:Nat->Nat->Option Bool}(hc:∀i j b zP,lt i j=JS b->zP b s->cmp i j zP s){G:zi->JI->Prop}:∀(t:KasT zi){a:zi},runK lt t=JS a->G a s->t.kasWp cmp G s|.ret a,b,e,hG=>by cases e;exact hG|.ask i j k,b,e,hG=>by unfold runK at e;show cmp i j (λc s'=>(k c).kasWp cmp G s') s;cases q:lt i j with|none=>rw[q]at e;cases e|some c=>rw[q]at e;exact hc i j c _ q (XG hc (k c) e hG)
theorem LZ {a : J0} {vs out : List JM} {n : Nat} {P : Fw → JI → Prop} (ho : s.heap.get? a = JS (seqObj "list" vs.toArray n)) (qm : vs.length < u5 ∧ (2 ≤ vs.length → vs.length < 64))
    (hk : ∀ s' : JI, (∀ b o, b ≠ a → s.heap.get? b = JS o → s'.heap.get? b = JS o) → 2 ≤ vs.length → wpAny (model prog w) A (keyKind' vs.toArray) (fun ma kU => kU = s' ∧ (kas_sort vs.length).kasWp (kas_ask prog w A ma vs) (fun p s3 => s3 = s' ∧ out = p.toList.map fun i => vs.getD i Hz) s') (fun zz zz => False) s')
    (h2 : vs.length < 2 → out = vs)
    (h : ∀ h' ep, (∀ b o, b ≠ a → s.heap.get? b = JS o → h'.get? b = JS o) → h'.get? a = JS (seqObj "list" out.toArray ep) → P (.done (.ret .none)) { s with heap := h' }) :
    wpAny (model prog w) A (Builtin.«list.sort» ⟨[.ref a], []⟩) P E s := by
  obtain zc : u5 = 1000000 := rfl
  obtain s1 := Ir s.heap a (H_ fun zz => (#[] : Array JM))
  obtain ⟨e1, Xq⟩ : ∃ e1, (s.heap.update a (H_ fun zz => (#[] : Array JM))).get? a = JS (seqObj "list" #[] e1) := ⟨_, get?_update_seq ho fun zz => #[]⟩
  obtain eN : (((s.heap.update a (H_ fun zz => (#[] : Array JM))).push (seqObj "tuple" vs.toArray 0)).push (seqObj "list" #[] 0)).get? a = JS (seqObj "list" #[] e1) := J6 _ (J6 _ Xq)
  have k3 : ∀ b o, b ≠ a → s.heap.get? b = JS o → (((s.heap.update a (H_ fun zz => (#[] : Array JM))).push (seqObj "tuple" vs.toArray 0)).push (seqObj "list" #[] 0)).get? b = JS o := fun b o q e => J6 _ (J6 _ ((s1.2 b q).trans e))
  rw [list_sort_plain]
  refine JR (listItems_at ho rfl ?_)
  refine JR (listUpdate_at ho rfl ?_ (by rewrite [Hx]; rw [sizeLine_eq]; lia) (I4 _))
  refine JR (seqEpoch_at Xq rfl ?_)
  refine JR (wpAny_newTuple ?_ (by show vs.length ≤ _; rw [sizeLine_eq]; lia))
  refine JR (wpAny_newList ?_ (I4 _))
  refine JE ?_
  show wpAny (model prog w) A _ P E { s with heap := ((s.heap.update a (H_ fun zz => (#[] : Array JM))).push (seqObj "tuple" vs.toArray 0)).push (seqObj "list" #[] 0) }
  dsimp only
  have fin : ∀ {st : SortSt}, (arrOf st).map (·.2) = out.toArray → out.length < u5 → failedOf st = none → wpAny (model prog w) A (do
        let touched := (← seqEpoch a) != e1
        Builtin.List.listUpdate (.ref a) fun zz => (arrOf st).map (·.2)
        if let JS e := failedOf st then rule "list.sort.comparison-raised"; throw e
        if touched then rule "list.sort.modified"; raiseError "ValueError" "list modified during sort"
        ret .none) P E { s with heap := ((s.heap.update a (H_ fun zz => (#[] : Array JM))).push (seqObj "tuple" vs.toArray 0)).push (seqObj "list" #[] 0) } := by
    intro st e vi hf
    refine JR (seqEpoch_at eN rfl ?_)
    rw [e]
    refine JR (listUpdate_at eN rfl ?_ (I4 _) (by show out.toArray.size ≤ _; rewrite [Hx]; rw [sizeLine_eq]; lia))
    rw [hf]
    simp only [bne_self_eq_false, Iv, if_false]
    refine JL (h _ _ (fun b o q e => ?_) (get?_update_seq eN fun zz => out.toArray))
    exact ((Ir _ a _).2 b q).trans (k3 b o q e)
  by_cases lV : vs.length < 2
  · have lU : vs.toArray.size < 2 := by rw [Hx]; exact lV
    rewrite [if_pos lU]; rw [if_pos lU]
    refine JR (JL (JR (JL ?_)))
    dsimp only
    refine fin ?_ (by rw [h2 lV]; exact qm.1) rfl
    rw [h2 lV]
    show (vs.toArray.zip vs.toArray).map (·.2) = _
    apply Eo.mp
    simp [List.map_snd_zip]
  · have lU : ¬ vs.toArray.size < 2 := by rw [Hx]; exact lV
    obtain lY : 2 ≤ vs.length := IU lV
    rewrite [if_neg lU]; rw [if_neg lU]
    refine JR (JC (hk _ k3 lY) (fun ma s0 eD => ?_) fun zz zz x => x.elim)
    obtain ⟨rfl, eD⟩ := eD
    refine JR (JC (kat_run (Q := fun h_ s' => C4 (s' = _) ((arrOf h_).map (·.2) = out.toArray) (out.length < u5) (failedOf h_ = none))
      rfl lY (qm.2 lY) (fun p' h_ s' a1 a2 a3 a4 => ⟨a4.1, ?_, ?_, a3⟩) eD) ?_ fun zz zz e => e)
    · rw [a4.2]; exact kat_snds rfl a2
    · rewrite [a4.2]; rewrite [JN]; rewrite [J8]; rw [a1]; exact qm.1
    · rintro ⟨⟨⟩, h_⟩ s' ⟨rfl, b1, b2, b3⟩
      exact fin b1 b2 b3
theorem LY{l:J0}{vs out:List JM}{Q:JM->JI->Prop}(hl:s.heap.IsList l vs.toArray)(qm:vs.length<u5/\(2<=vs.length->vs.length<64))(hk:∀s':JI,(∀b o,s.heap.get? b=JS o->s'.heap.get? b=JS o)->2<=vs.length->wpAny (model prog w) A.in1.in1 (keyKind' vs.toArray) (λma kU=>kU=s'/\(kas_sort vs.length).kasWp (kas_ask prog w A.in1.in1 ma vs) (λp s3=>s3=s'/\out=p.toList.map λi=>vs.getD i Hz) s') (λzz zz=>False) s')(h2:vs.length<2->out=vs)(h:∀h' D ep,(∀b o,s.heap.get? b=JS o->h'.get? b=JS o)->s.heap.get? D=none->h'.get? D=JS (seqObj "list" out.toArray ep)->Q (.ref D) {s with heap:=h'}):wpAny (model prog w) A (call (.builtin "sorted") [.ref l]) Q E s:=by
 obtain zc:u5=1000000:=rfl;refine Calls.call_function_entry kind_sorted plain_sorted entry_sorted (args_sorted1 _) ?_;unfold Builtin.«sorted»;refine JR (m:=checkCount "sorted" 1 1 _) (JL ?_);refine JR (collect_list hl ?_ (by rw[sizeLine_eq];lia));refine JR (wpAny_newList ?_ (by rw[sizeLine_eq];lia));have uy:((s.heap.push (seqObj "list" #[] 0)).update s.heap.objs.size (H_ (.++vs.toArray))).objs.size=s.heap.objs.size+1:=by rewrite[Heap.size_update];rw[size_push']
 obtain Xp:(((s.heap.push (seqObj "list" #[] 0)).update s.heap.objs.size (H_ (.++vs.toArray))).push (seqObj "list" vs.toArray 0)).get? (s.heap.objs.size+1)=JS (seqObj "list" vs.toArray 0):=by rw[<-uy];exact J7 _ rfl
 have keep:∀b o,s.heap.get? b=JS o->(((s.heap.push (seqObj "list" #[] 0)).update s.heap.objs.size (H_ (.++vs.toArray))).push (seqObj "list" vs.toArray 0)).get? b=JS o:=λb o q=>by obtain yN:b<s.heap.objs.size:=I7 q;rewrite[Er _ _ _ (by rw[uy];exact IP (GF yN))];rewrite[Heap.get?_update_ne _ _ _ _ (IP yN)];rw[Er _ _ _ (IP yN)];exact q
 show wpAny _ _ _ _ _ {s with heap:=((s.heap.push (seqObj "list" #[] 0)).update s.heap.objs.size (H_ (.++vs.toArray))).push (seqObj "list" vs.toArray 0)};rw[uy];obtain ne:∀b o,s.heap.get? b=JS o->b≠s.heap.objs.size+1:=λb o e=>IP (GF (I7 e));refine JR (JE (Gn slot_list_sort ⟨_,Xp,rfl⟩ entry_list_sort ?body (args_list_sort _)));refine LZ (out:=out) Xp qm (λs' ks tp=>hk s' (λb o e=>ks b o (ne b o e) (keep b o e)) tp) h2 λh' ep k' g'=>?_;exact⟨_,rfl,JL ⟨_,rfl,h h' _ ep (λb o e=>k' b o (ne b o e) (keep b o e)) (tq (GC _)) g'⟩⟩
end
theorem Yg:∀(p q:List Int),FE (v_ (p.map V.int)) (v_ (q.map V.int))=decide (p=q)
|[],[]=>rfl
|i::p,j::q=>by
 show(decide (i=j)&&FE (v_ (p.map V.int)) (v_ (q.map V.int)))=_;rw[Yg p q];by_cases e:i=j;.subst e;simp
 .simp[e]
|[],zo::zY|zH::ya,[]=>rfl
theorem Wt(n:Nat)(p:List Int):lvl (n+1) (.tup (p.map V.int))=JQ:=by show(p.map V.int).all (lvl n)=JQ;rewrite[List.all_map];rw[Iz];intro i _;cases n<;>rfl
section
variable{F:Fr}{A:Ip}{f:FM}{C:OW}{J:St}{s:JI}{h h':Im}
theorem cu{p:uS}{w:JM}(hv:VR f C h (xh p) w):X5 λ(a c:J0)(items:Array JM)(ep:Nat)(sl:Array (Option JM))=>X5 λ(pN:Array JM)(yW:Nat)(sy:Array (Option JM))(ts:List Tok)(t:Tok)=>C7 (w=.ref a) (h.get? a=JS ⟨.type "tuple",none,.seq items ep,sl⟩) (items.toList=[.ref c,.str (tx p.2) t]) (h.get? c=JS ⟨.type "tuple",none,.seq pN yW,sy⟩) (ts.length=p.1.length) (pN.toList=p.1.zipWith (λi t=>HK i t) ts) (VR f C h (.tup (p.1.map V.int)) (.ref c)):=by obtain⟨a,items,ep,sl,rfl,g,n,⟨w1,r1,e1,h1,⟨w2,r2,e2,⟨t,h2⟩,h3⟩⟩⟩:=hv;subst e2;cases h3;subst h2;obtain⟨c,pN,yW,sy,rfl,g',n',P'⟩:=id h1;obtain⟨ts,t1,t2⟩:=XZ P';exact⟨a,c,items,ep,sl,pN,yW,sy,ts,t,rfl,g,e1,g',t1,t2,h1⟩
theorem V6:∀{ps:List uS}{ws:List JM},zS f C h (ps.map xh) ws->grows h h'->∃fs:List JM,C3 (KatTups h' ws fs) (fs.length=ps.length) (∀M,∀v∈fs,Looks M h' (typeOf v) (.type "tuple"))
|[],zo,e,zY=>by cases e;exact⟨[],.nil,rfl,λzz zz q=>(nomatch q)⟩
|x::xs,zo,⟨w,r,e,e1,e2⟩,hk=>by
 subst e;obtain⟨fs,i1,i2,i3⟩:=V6 e2 hk;obtain⟨a,c,items,ep,sl,pN,yW,sy,ts,t,rfl,g,hi,g',_,_,_⟩:=cu e1;refine⟨.ref c::fs,.cons (hk _ _ g) rfl rfl (by rewrite[<-Iu];rw[hi];rfl) i1,congrArg (.+1) i2,λM v hv=>?_⟩;rcases JJ.mp hv with rfl|hv;.exact(Eu (hk _ _ g')).andThen .now
 .exact i3 M v hv
theorem zS.pick{ps:List uS}{ws:List JM}(e:zS f C h (ps.map xh) ws):∀(l:List Nat),(∀i∈l,i<ps.length)->zS f C h ((l.map λi=>ps.getD i ([],[])).map xh) (l.map λi=>ws.getD i .none)|[],zo=>rfl|i::l,hl=>by have q:=hl i JH;obtain⟨w,e2,e3⟩:=e.get (i:=i) (v:=xh ps[i]) (by rewrite[JF];rw[Ic q];rfl);refine⟨_,_,rfl,?_,zS.pick e l λj hj=>hl j (J2 _ hj)⟩;show VR f C h (xh (ps.getD i ([],[]))) (ws.getD i Hz);rewrite[IY];rewrite[IY];rewrite[Ic q];rw[e2];exact e3
set_option tactic.hygienic true in theorem R9{n:Nat}{ps qs:List uS}(hn:J[n]?=JS (.list (ps.map xh)))(hs:mw ps=JS qs)(v3:∀p,runK (p7 ps) (HL ps.length)=JS p->∀i∈p.toList,i<ps.length):Call F (.bi .sorted) [.ref n] J (.ok (.ref J.length) (J++[.list (qs.map xh)])):=by
 refine⟨λ{A f C s xY vals}r ak hf hv=>?_⟩;cases hf;obtain⟨w1,r1,rfl,⟨a,fa,rfl⟩,hr⟩:=hv;cases hr;obtain⟨_,items,ep,g,xA⟩:=xf r fa hn;have hl:items.toList.length=ps.length:=xA.length.trans (JN _);obtain hu:A.units+64<cLine:=by obtain this:=ak.units;lia
 have main:∀(out:List JM),zS f C s.heap (qs.map xh) out->(items.toList.length<u5/\(2<=items.toList.length->items.toList.length<64))->(∀s':JI,(∀b o,s.heap.get? b=JS o->s'.heap.get? b=JS o)->2<=items.toList.length->wpAny (model F.b.prog F.b.w) A.in1.in1 (keyKind' items.toList.toArray) (λma kU=>kU=s'/\(kas_sort items.toList.length).kasWp (kas_ask F.b.prog F.b.w A.in1.in1 ma items.toList) (λp s3=>s3=s'/\out=p.toList.map λi=>items.toList.getD i Hz) s') (λzz zz=>False) s')->(items.toList.length<2->out=items.toList)->W F A (E_ (.builtin "sorted") [.ref a]) rV f C s (.ok (.ref J.length) (J++[.list (qs.map xh)])):=by intro out ho hz hk h2;refine LY (out:=out) (vs:=items.toList) ⟨_,g,rfl,ep,by rw[Gf]⟩ hz hk h2 λh' D yW wh fr gD=>?_;refine⟨_,_,pq (s':={s with heap:=h'}) (a:=D) (l:=[D]) (m:=.list (qs.map xh)) r wh rfl rfl (λc hc=>by rw[JP.mp hc];exact⟨fr,_,gD⟩) ⟨tE JH,out.toArray,yW,gD,?_⟩,_,t8,rfl⟩;exact zS.yn (Ext.new (fr:=[]) r wh λc hc=>by rw[JP.mp hc];exact fr).v _ ho
 unfold mw at hs;split at hs;.rename_i h2;cases hs;exact main items.toList xA ⟨by rw[hl];exact IJ h2 (by decide),λz=>by lia⟩ (λzz zz z=>by lia) λzz=>rfl
 .rename_i h2;split at hs;case isFalse=>cases hs
  rename_i qm;obtain⟨p,hp,rfl⟩:=JB.mp hs;refine main (p.toList.map λi=>items.toList.getD i Hz) (xA.pick _ (v3 p hp)) ⟨by rw[hl];exact Hm qm (by decide),λzz=>by rw[hl];exact qm⟩ (λs' hk z=>?_) λz=>absurd (hl▸z) h2;obtain⟨fs,t1,t2,t3⟩:=V6 xA hk;obtain sT:=zS.ext (Ext.grow (fr:=[]) hk) _ xA;refine kat_kind t1 (by lia) (t3 _) (by decide) ⟨rfl,?_⟩;rw[show(I' "tuple"!=I' "tuple")=JT by decide,hl];refine XG (s:=s') (lt:=p7 ps) (λi j c zP e hC=>?_) _ hp ⟨rfl,rfl⟩;unfold p7 at e;split at e;case h_2=>cases e
  rename_i x y hx hy;split at e;.cases e
  rename_i ne;cases e;obtain⟨wx,Oy,vx⟩:=sT.get (i:=i) (v:=xh x) (by rewrite[JF];rw[hx];rfl);obtain⟨wy,Ox,vy⟩:=sT.get (i:=j) (v:=xh y) (by rewrite[JF];rw[hy];rfl);obtain⟨a1,c1,Jq,K0,Je,Jo,K',Jd,LD,LH,rfl,g1,Pe,tw,P4,Pa,Kg⟩:=cu vx;obtain⟨a2,c2,Jp,RS,Jc,Jn,Jz,Jb,LC,JY,rfl,g2,Pd,fK,P2,P_,Kf⟩:=cu vy;show wpAny _ _ (keyLt' (tuples' JT) (items.toList.getD i Hz) (items.toList.getD j Hz)) zP _ s';rewrite[IY];rewrite[IY];rewrite[Oy];rw[Ox];refine kat_lt g1 rfl g2 rfl ?_;rewrite[Pe];rw[Pd];refine kat_cons ?_;obtain⟨⟨as,r1⟩,r2,r3⟩:=iG 3 (.tup (x.1.map V.int)) _ (Wt 2 x.1) Kg;obtain⟨⟨bs,q1⟩,q2,q3⟩:=iG 3 (.tup (y.1.map V.int)) _ (Wt 2 y.1) Kf;refine PySem.SeqAt.eqBoolOverData _ _ _ _ _ _ _ _ _ _ _ _ r1 q1 r2 q2 (by show A.units+1+1+_<cLine;lia) ?_;rw[show Gl (conv (.tup (x.1.map V.int))) (conv (.tup (y.1.map V.int)))=JT from(Yg ..).trans (decide_eq_false ne)];refine kat_no ?_;rw[Bool.false_and];exact kat_one _ _ (LA (ts:=LD) (us:=LC) (by show A.units+1+1<cLine;lia) P4 P2 tw rfl (by rewrite[<-Pa];rw[Gf]) fK rfl (by rewrite[<-P_];rw[Gf]) hC)
end
open PySem PySem.W PySem.Calls PyProof.Rows
theorem iN:plainId "dict.update.loop"=JQ:=by decide+kernel
theorem Yi:entryFor table "dict.update.loop"=JS Builtin.«dict.update.loop»:=entryFor_of_fast (by kernel_rfl)
theorem O0:typeLookup (.type "list") "keys"=pure none:=by rewrite[typeLookup_type];rw[builtinLookup_eq_fast];kernel_rfl
theorem OJ{prog:Program}{w:World}{A:Ip}{E:JM->JI->Prop}{s:JI}{a:J0}{xs:Array JM}{k:Nat}{sl:Array (Option JM)}{Q:Option JM->JI->Prop}(hx:s.heap.get? a=JS ⟨.type "list",none,.seq xs k,sl⟩)(hA:A.handled=none)(h:∀h' tk,(∀b o,s.heap.get? b=JS o->h'.get? b=JS o)->Q none {s with heap:=h',toks:=tk}):wpAny (model prog w) A (getAttr? (.ref a) "keys") Q E s:=by
 obtain⟨hp,g,d,tk,os⟩:=s;obtain hT:∀s9,(⟨hp,g,d,s9,os⟩:JI).TypeIs (.ref a) "list":=λzz=>⟨_,hx,rfl⟩;obtain f1:=sub_AttributeError;obtain f3:=HW.lookup;obtain f4:=HW.bind (.ref a);obtain f5:=am_list_getattr_none;unfold getAttr?;refine JR (wpAny_mkText ?_);unfold getAttrBy?;refine JR (wpAny_attempt ?_);unfold getAttrBy;repeat(any_goals(first|assumption|exact hT _|((with_reducible show wpAny _ _ (call (G8 "list.__getattribute__") _ _) _ _ _);refine call_meets HW (hT _) am_entry_list_getattribute (PySem.F.args_list_getattribute_2 _ _) (meets_getattribute_miss_list a xs k sl "keys" _ O0 (by decide) (by decide)) ⟨hx,hA,λh' s9 e pR=>?_⟩)|wp_step))
 obtain lO:=pR.of;obtain⟨t',u',he⟩:=pR.there;obtain QG:∀LI,(⟨h',g,d,LI,os⟩:JI).TypeIs (.ref e) "AttributeError":=λzz=>⟨_,he,rfl⟩;show wpAny _ _ (getattributeRaised _ _ _ _ _ _ _) _ _ _;unfold getattributeRaised;repeat(any_goals(first|assumption|exact QG _|wp_step))
 exact h _ _ lO.keeps
noncomputable def il(p:List Nat×V):V:=.tup [.str p.1,p.2]
section
variable{F:Fr}{A:Ip}{f:FM}{C:OW}{J:St}{s:JI}{h h':Im}
theorem Km{b:Bc}{R:Result->JI->Prop}(hh:A.handled=none){I l d:J0}(ne:l≠I)(ey:d≠I)(Pt:d≠l){items:Array JM}{h0:Im}(fd:h0.get? d=none)(fI:h0.get? I=none):∀(ps:List (List Nat×V))(i:Nat)(j:Int)(t:Tok)(s:JI)(es:List (List Nat×V))(ents:Array Ig)(ep:Nat),zS f C h0 (ps.map il) (items.toList.drop i)->i+ps.length=items.size->grows h0 s.heap->s.heap.IsListIter I l i->s.heap.IsList l items->s.heap.get? d=JS (xu ents ep)->DR b.w.params f C s.heap es ents.toList->es.length+ps.length<=sizeLine->(∀h' tk wV yW,grows h0 h'->h'.get? d=JS (xu wV yW)->DR b.w.params f C h' (u2 ps es) wV.toList->R (.ok (.ret .none)) {s with heap:=h',toks:=tk})->codeAny (model b.prog b.w) A (.builtin "dict.update.loop" ⟨[.ref d,.ref I,.int j t,.none],[]⟩) R s:=by
 intro ps;obtain W:=Walks.list (prog:=b.prog) (w:=b.w) (A:=A.in1) hh I l ne items;have step:∀{wL xP:Im}{i:Nat},grows h0 wL->wL.IsListIter I l i->(∀c o,c∉[I]->wL.get? c=JS o->xP.get? c=JS o)->grows h0 xP/\vm f C wL f C xP:=by
  intro wL xP i g it m;obtain⟨oI,gI,c1,c2⟩:=it;refine⟨λc o e=>m c o (λq=>?_) (g c o e),λzz zz e=>e,λc e n=>⟨?_,n⟩⟩;.rw[JP.mp q,fI]at e;cases e
  .obtain⟨it,ep,sl,q⟩:=id e;refine(m c _ (λz=>?_) q).trans q.symm;rw[JP.mp z]at e;exact uw gI (by rw[c1];decide) e
 induction ps with
 |nil=>intro i j t s es ents ep hv hn hk hit hl hd dr hz hR;have hi:i=items.size:=hn;subst hi;refine codeAny_builtin Yi ?_;rw[FW iN _];show wpAny _ A.in1 (pyNext (.ref I)>>=_) _ _ s;refine JR (W.done s _ _ ⟨hit,hl⟩ λh' tk hm=>?_);obtain⟨k',vx⟩:=step hk hit hm;exact JR (JL (JL (hR h' tk ents ep k' (hm d _ (by simpa using ey) hd) (DR.yn vx _ dr))))
 |cons p ps ih=>
  intro i j t s es ents ep hv hn hk hit hl hd dr hz hR;obtain⟨k,v⟩:=p;rw[ID]at hn hz;have yN:i<items.size:=by lia
  obtain⟨wv,rest,hw,nY,nf⟩:=hv;obtain Pr:items.toList.drop i=items.toList[i]'(by simpa using yN)::items.toList.drop (i+1):=List.drop_eq_getElem_cons (by simpa using yN);replace hw:=Pr.symm.trans hw;injection hw with sS ti;subst ti;obtain⟨a,pN,yW,sl,rfl,g1,n1,w1,r1,q1,⟨LH,rfl⟩,w2,r2,rfl,h2,hr⟩:=nY;cases hr;refine codeAny_builtin Yi ?_;rw[FW iN _];show wpAny _ A.in1 (pyNext (.ref I)>>=_) _ _ s;refine JR (W.item i s _ _ yN ⟨hit,hl⟩ λit wL tk hP hO hm=>?_);obtain this:it=.ref a:=by rw[<-Iu,Ic (by simpa using yN),sS]at hP;cases hP;rfl
  subst this;obtain⟨nR,vx⟩:=step hk hit hm;have Y1:=hm d _ (by simpa using ey) hd;dsimp only;refine JR (JE (JR (wpAny_tryCatch ?_)));unfold Builtin.Dict.pairItems;refine JR (Ey (T:="tuple") ⟨_,nR _ _ g1,rfl⟩ ?_);rw[if_pos (by decide)];refine JR ?_;unfold seqItems?;refine JR (wpAny_load (nR _ _ g1) (JL (JL ?_)));show wpAny _ _ (match pN.toList with|[k,v]=>holding [k,v] (dictSet d k v)|l=>_) _ _ _;rw[q1];dsimp only;refine JE (fw (s:={s with heap:=wL,toks:=tk}) Y1 (DR.yn vx _ dr) (VR.ext (Ext.grow (fr:=[]) nR) _ h2) (by lia) λxP fZ fY vz eu fj=>?_);refine JL ⟨plainId_quiet iN _,?_⟩;obtain sX:=fq (k:=k) v es;exact ih (i+1) (j+1) 0 {s with heap:=xP,toks:=tk+1} (dput k v es) fZ fY nf (by lia) (λb o e=>(vz.2 b (λq=>by rw[q,fd]at e;cases e)).trans (nR b o e)) (hO.1.at λo e=>(vz.2 I (Hk ey)).trans e) (hO.2.at λo e=>(vz.2 l (Hk Pt)).trans e) eu (DR.yn (gu vz (uw Y1 rfl)) _ fj) (by lia) λh' s9 wV yW a1 a2 a3=>hR h' s9 wV yW a1 a2 a3
theorem RB{n:Nat}{ps:List (List Nat×V)}(hq:F.q=JT)(hn:J[n]?=JS (.list (ps.map il)))(hs:short ps=JQ):Call F (.ty .dict) [.ref n] J (.ok (.ref J.length) (J++[.dict (u2 ps [])])):=by refine⟨λ{A f C s xY vals}r ak hf hv=>?_⟩;cases hf;obtain⟨w1,r1,rfl,⟨a,fa,rfl⟩,hr⟩:=hv;cases hr;obtain hh:=ak.hand hq;obtain⟨_,items,ep,g,xA⟩:=xf r fa hn;obtain hl:=xA.length;rw[J8,JN]at hl;obtain zq:=qx hs;obtain bc:sizeLine=2^24:=rfl;obtain fresh:=tq (h:=s.heap) (JK _);obtain gr:=xE s.heap emptyDict;obtain gD:(s.heap.push emptyDict).get? s.heap.objs.size=JS emptyDict:=J7 _ rfl;obtain na:s.heap.objs.size≠a:=G_ (I7 g);refine callType_codes (Q₁:=λobj zd=>obj=.ref s.heap.objs.size/\zd={s with heap:=s.heap.push {cls:=.type "dict",data:=.dict #[]}}) PySem.F.kt_called_dict (PySem.F.kt_typeCall_dict_1 _) PySem.F.entry_dict_init (kt_code_dict_new _ ⟨rfl,rfl⟩) ?_;rintro obj zd⟨rfl,rfl⟩;refine⟨⟨_,gD,rfl⟩,PySem.F.args_dict_init_2 _ _,?_⟩;unfold Builtin.«dict.__init__»;refine JR ?_;unfold Builtin.Dict.selfAndRest;refine JR (Fh ⟨_,gD,rfl⟩ ?_);show wpAny _ _ (pure (s.heap.objs.size,[HS a])) _ _ _;refine JL ?_;show wpAny _ _ (Fv "dict.__init__" s.heap.objs.size (.ref a) [] .none) _ _ _;unfold Fv;refine JR (Ey (T:="list") ⟨_,gr _ _ g,rfl⟩ ?_);rw[if_pos (by decide)];refine JR (OJ (gr _ _ g) hh λxP LG lH=>?_);rw[if_pos (by rfl:(none:Option JM).isNone=JQ)];refine JR (Gq (JR (wpAny_pyIter_list (items:=items) ⟨_,lH _ _ (gr _ _ g),rfl,ep,rfl⟩ ?_)));obtain yN:s.heap.objs.size<xP.objs.size:=I7 (lH _ _ gD);obtain PY:a<s.heap.objs.size:=I7 g;obtain g3:=xE xP (⟨.type "list_iterator",none,.fields #[.ref a,.int 0 0],#[]⟩:Obj);obtain gI:(xP.push (⟨.type "list_iterator",none,.fields #[.ref a,.int 0 0],#[]⟩:Obj)).get? xP.objs.size=JS ⟨.type "list_iterator",none,.fields #[.ref a,.int 0 0],#[]⟩:=J7 _ rfl;refine JL ⟨plainId_quiet iN _,?_⟩;refine Km (b:=F.b) (f:=f) (C:=C) (s:={s with heap:=xP.push ⟨.type "list_iterator",none,.fields #[.ref a,.int 0 0],#[]⟩,toks:=LG}) (A:=A.in1) hh (I:=xP.objs.size) (l:=a) (d:=s.heap.objs.size) (IP (Hm PY yN)) (IP yN) na (items:=items) (h0:=s.heap) fresh (tq (Fs yN)) ps 0 0 0 [] #[] 0 xA (by lia) (λc o e=>g3 _ _ (lH _ _ (gr _ _ e))) ⟨_,gI,rfl,rfl⟩ ⟨_,g3 _ _ (lH _ _ (gr _ _ g)),rfl,ep,rfl⟩ (g3 _ _ (lH _ _ gD)) rfl (by simp;lia) λh' tk wV yW a1 a2 a3=>?_;refine⟨rfl,_,_,pq (s':={s with heap:=h',toks:=tk}) (a:=s.heap.objs.size) (l:=[s.heap.objs.size]) (m:=.dict (u2 ps [])) r a1 rfl rfl (λc hc=>by rw[JP.mp hc];exact⟨fresh,_,a2⟩) ⟨tE JH,wV,yW,a2,?_,jZ HZ⟩,_,t8,rfl⟩;exact DR.yn ⟨i9 r,λc e n=>⟨rfl,(tD λq=>by rw[JP.mp q]at e;exact uw a2 rfl e).trans n⟩⟩ _ a3
end
section
variable{b:Bc}{d:Nat}{q:Bool}{L zN:Loc}{J zt zy:St}
theorem zI{a:Nat}{fd:FD}{args:List V}{v:V}(hf:prog.fn a=JS fd)(hb:uo fd.params fd.dflt args=JS L)(hx:XB ⟨b,q,JT,d⟩ L fd.body J (.ok (.ret v) zN zy)):Call ⟨b,q,JT,d+1⟩ (.fn a) args J (.ok v zy):=SD rfl rfl hf hb hx
theorem vK{a:Nat}{fd:FD}{args:List V}(hf:prog.fn a=JS fd)(hb:uo fd.params fd.dflt args=JS L)(hx:XB ⟨b,q,JT,d⟩ L fd.body J (.ok .next zN zy)):Call ⟨b,q,JT,d+1⟩ (.fn a) args J (.ok .none zy):=S6 rfl rfl hf hb hx
theorem tu{a:Nat}{fd:FD}{args:List V}{v:V}(hf:prog.fn a=JS fd)(hb:uo fd.params fd.dflt args=JS L)(hx:XB ⟨b,q,JT,d⟩ L fd.body J (.exc v zN zy)):Call ⟨b,q,JT,d+1⟩ (.fn a) args J (.exc v zy):=SG rfl rfl hf hb hx
end
theorem yz{x:Nat}{v:V}{L:Loc}:lk x (st x v L)=JS v:=by rewrite[vI];rw[if_pos rfl]
theorem zg{x y:Nat}{v:V}{L:Loc}{o:Option V}(h:JG y x=JT)(h':lk y L=o):lk y (st x v L)=o:=by rewrite[vI];rw[if_neg (λe=>by rw[e,Gz]at h;cases h)];exact h'
noncomputable def Gr(J zy:St):Prop:=J.length<=zy.length/\∀r,r<J.length->zy[r]?=J[r]?
theorem Gr.rfl{J:St}:Gr J J:=⟨JK _,λzz zz=>Eq.refl _⟩
theorem Gr.tr{J zy UB:St}(h:Gr J zy)(h':Gr zy UB):Gr J UB:=⟨J4 h.1 h'.1,λr hr=>(h'.2 r (IJ hr h.1)).trans (h.2 r hr)⟩
theorem Gr.push{J:St}(o:O):Gr J (J++[o]):=⟨by rw[JO];exact Hy _ _,λr hr=>Hu hr⟩
theorem Gr.get{J zy:St}{n:Nat}{o:O}(h:Gr J zy)(hn:J[n]?=JS o):zy[n]?=JS o:=(h.2 n (y0 hn)).trans hn
theorem Gr.set{J zy:St}{n:Nat}{o:O}(h:Gr J zy)(hn:J.length<=n):Gr J (zy.set n o):=⟨by rw[IB];exact h.1,λr hr=>by rw[Hl (by lia)];exact h.2 r hr⟩
theorem zA{J:St}{o:O}:(J++[o])[J.length]?=JS o:=by rewrite[I_ (JK _)];rw[Hn];rfl
noncomputable def Wh:Nat:=17
noncomputable def nW(J:St)(n:Nat)(i:Int):Prop:=X2 λc fs=>C3 (J[n]?=JS (.inst c fs)) (c=228\/c=40) (lk Wh fs=JS (.int i))
theorem sA{c:Nat}(hc:c=228\/c=40):qW c:=by rcases hc with rfl|rfl<;>exact⟨_,rfl⟩
theorem VA{c x:Nat}(hc:c=228\/c=40)(hx:x=Wh):xi c x=JQ:=by subst hx;rcases hc with rfl|rfl<;>rfl
section
variable{b:Bc}{d:Nat}{q:Bool}{J zt:St}
theorem cP{n:Nat}{i:Int}(h:nW J n i):Call ⟨b,q,JT,d+1⟩ (.fn 267) [.ref n] J (.ok (.str [116,104,105,110,103]) J):=by obtain⟨c,fs,hn,hc,hl⟩:=h;obtain hp:=sA hc;apply zI rfl rfl;refine zr (zO (zZ (zx rfl) zQ (yX rfl)) zj) ?_;refine zr (zO (y6 (yp rfl) (zp (zx rfl) (zp (yp rfl) zf)) (pQ hn hp rfl)) zj) ?_;refine zr (zO (y6 (yp rfl) (zp (zx rfl) (zp (yp rfl) zf)) (pQ hn hp rfl)) zj) ?_;exact zT (zL (wt (y6 (yp rfl) (zp (zx rfl) (zp (yp rfl) zf)) (pQ hn hp rfl)) zV))
end
open PySem
theorem Yh(i j:Int):Gl (conv (.int i)) (conv (.int j))=(i==j):=rfl
theorem rj{F:Fr}{J:St}{i j:Int}:xg F .eq (.int i) (.int j) J (i==j):=gU rfl rfl (Yh i j)
noncomputable def plainS(s:List Nat):Bool:=s.all λc=>Io c 0x110000
theorem u6{F:Fr}{J:St}{s t:List Nat}(hs:plainS s=JQ)(ht:plainS t=JQ):xg F .eq (.str s) (.str t) J (zR t s):=gU hs ht (Yd s t)
theorem qF{F:Fr}{J:St}{s t:List Nat}(hs:plainS s=JQ)(ht:plainS t=JQ):xg F .ne (.str s) (.str t) J (!zR t s):=gR hs ht (Yd s t)
section
variable{b:Bc}{d:Nat}{q:Bool}{J zt:St}
theorem Vi{m n:Nat}{i j:Int}(hm:nW J m i)(hn:nW J n j):Call ⟨b,q,JT,d+2⟩ (.fn 274) [.ref m,.ref n] J (.ok (.bool (i==j)) J):=by obtain⟨c,fs,h1,h2,h3⟩:=id hm;obtain⟨c',xF,xD,tp,QP⟩:=id hn;apply zI rfl rfl;refine zr (yu (y6 (yp rfl) (zp (zx rfl) zf) (cP hm))) ?_;refine zr (zO (zZ (zx rfl) (y6 (yp rfl) (zp (zx rfl) zf) (cP hn)) (qF rfl rfl)) zj) ?_;exact zT (zL (wq (zZ (zx rfl) zV (u6 rfl rfl)) (zZ (zM (zx rfl) h1 (VA h2 rfl) h3) (zM (zx rfl) xD (VA tp rfl) QP) rj)))
noncomputable def refs(l:List Nat):List V:=l.map V.ref
theorem Vp{l:List Nat}{i:Nat}{n:Nat}(h:l[i]?=JS n):(refs l)[i]?=JS (.ref n):=by unfold refs;rewrite[JF];rw[h];rfl
theorem cT{l:List Nat}:(refs l).length=l.length:=JN _
theorem Z5{zi:Type}{xs:List zi}{n r:Nat}{x:zi}{ys:List zi}(h:xs.drop (n-(r+1))=x::ys)(hr:r<n):xs[n-(r+1)]?=JS x/\xs.drop (n-r)=ys:=by
 obtain h1:xs[n-(r+1)]?=JS x:=by rewrite[<-Ec];rw[h];rfl
 refine⟨h1,?_⟩;obtain this:n-r=(n-(r+1))+1:=by lia
 rewrite[this];rewrite[<-EW];rw[h];rfl
noncomputable def O3:S:=.cons (.cond (.call (.zu 85) (.cons (.loc 36) (.cons (.loc 5) .nil))) (.cons (.ret (.bool JQ)) .nil) .nil) .nil
theorem Lv{l n:Nat}{xs:List Nat}{i:Int}(hl:J[l]?=JS (.list (refs xs)))(hn:nW J n i)(hx:∀m∈xs,∃j,nW J m j/\(j==i)=(m==n)):Call ⟨b,JT,JT,d+3⟩ (.fn 368) [.ref l,.ref n] J (.ok (.bool (xs.contains n)) J):=by
 obtain loop:∀(r:Nat)(ys:List Nat)(L:Loc),r<=xs.length->xs.drop (xs.length-r)=ys->ys.length=r->lk 5 L=JS (.ref n)->∃L',FL ⟨b,JT,JT,d+2⟩ [36] (.list l) (refs xs) O3 r L J (.ok (if ys.contains n then .ret (.bool JQ)else .next) L' J):=by
  intro r;induction r with
  |zero=>intro ys L _ _ sY _;have:ys=[]:=HX.mp sY;subst this;exact⟨L,.stop hl⟩
  |succ r ih=>
   intro ys L hr hd sY hL;cases ys with
   |nil=>cases sY
   |cons m ys=>
    obtain⟨h1,h2⟩:=Z5 hd hr;obtain⟨j,hj,e⟩:=hx m (J5 h1);have hs:E ⟨b,JT,JT,d+2⟩ (st 36 (.ref m) L) (.call (.zu 85) (.cons (.loc 36) (.cons (.loc 5) .nil))) J (.ok (.bool (m==n)) J):=y6 (fv:=.fn 274) (yp rfl) (zp (zx yz) (zp (zx (zg rfl hL)) zf)) (by rw[<-e];exact Vi hj hn);have pR:(refs xs)[(refs xs).length-(r+1)]?=JS (.ref m):=by rw[cT];exact Vp h1
    rw[Iy];cases q:m==n with|true=>rw[q]at hs;rw[show(n==m)=JQ by rw[Bool.beq_comm];exact q,Bool.true_or];exact⟨_,.ret hl pR rfl (zT (ye hs (zT (zL sR))))⟩|false=>rw[q]at hs;rw[show(n==m)=JT by rw[Bool.beq_comm];exact q,Gj];obtain⟨L',pe⟩:=ih ys (st 36 (.ref m) L) (by lia) h2 (I1 sY) (zg rfl hL);exact⟨L',.turn hl pR rfl (zr (zO hs zj) zj) pe⟩
 obtain⟨L',pe⟩:=loop xs.length xs [(167,.ref l),(5,.ref n)] (JK _) (by simp) rfl rfl;rw[<-cT]at pe;apply zI rfl rfl;cases q:xs.contains n with|true=>rw[q]at pe;exact zT (xe (t:=.list l) rfl (zx rfl) hl rfl pe)|false=>rw[q]at pe;exact zr (xe (t:=.list l) rfl (zx rfl) hl rfl pe) (zT (zL sR))
end
structure z7 where
 e:Nat
 b:Option (List Nat)
 o:Nat
 s:List Nat
 n:List Nat
structure Row where
 li:Bool->List Nat
 ms:List (List Nat×z7)
noncomputable abbrev Tb:=Nat->Row
noncomputable def tab{zi:Type}(d:zi)(l:List zi)(i:Nat):zi:=l.getD i d
noncomputable def par:Nat->Option Nat:=tab none [none,none,JS 0,JS 2,JS 3,JS 2,JS 5,JS 5,none,none,JS 5,JS 6,JS 3,JS 4,JS 13,JS 14,JS 15,JS 15]
noncomputable def rank:Nat->Nat:=tab 0 [0,0,1,2,3,2,3,3,0,0,3,4,3,4,5,6,7,7]
noncomputable def yr:Nat->Option Nat:=tab none [JS 13,none,JS 14,none,none,JS 15,JS 16,JS 17,JS 12,none,none,none,none,none,none,none,none,none,none,none,JS 10,JS 11]
noncomputable def yT:Nat->Option Nat:=tab none [none,none,none,none,none,none,none,none,none,none,JS 20,JS 21,JS 8,JS 0,JS 2,JS 5,JS 6,JS 7]
noncomputable def yf(i:Nat):Bool:=!(JG i 1||(JG i 8||JG i 9))
noncomputable def wK:Nat->List Nat:=tab [] [[66,97,115,105,99,79,98,106,101,99,116],[75,101,114,110,101,108],[79,98,106,101,99,116],[77,111,100,117,108,101],[67,108,97,115,115],[65],[66],[67],[77],[78],[],[],[],[66,97,115,105,99,79,98,106,101,99,116,46],[79,98,106,101,99,116,46]]
noncomputable def qc(i:Nat):V:=match yT i with|JS _=>.none|none=>.str (wK i)
noncomputable def yG(i:Nat):V:=if Io i 5||(JG i 13||JG i 14)then .str (wK i)else .none
noncomputable def own(T:Tb):Nat->Nat->List Nat|0,m=>[m]|k+1,m=>((T m).li JQ).reverse.flatMap (own T k)++(m::((T m).li JT).reverse.flatMap (own T k))
noncomputable def here(bh:List Nat)(cnt:Nat):Nat->List Nat->List Nat->List Nat|zo,found,[]=>found|p,found,x::r=>here bh cnt (p+1) (if !found.contains x&&(decide ((p:Int)<cnt)||!bh.contains x)then found++[x]else found) r
noncomputable def xT(T:Tb)(i:Nat):Nat:=(((T i).li JQ).map λx=>(own T 1 x).length).sum
noncomputable def qI(h bh:List Nat):List Nat:=h++bh.filter λx=>!h.contains x
noncomputable def step(T:Tb)(i:Nat)(bh:List Nat):List Nat:=qI (here bh (xT T i) 0 [] (own T 2 i)) bh
noncomputable def dX(T:Tb):Nat->Nat->List Nat|0,i=>step T i []|k+1,i=>step T i (match par i with|JS p=>dX T k p|none=>[])
noncomputable def ln(T:Tb)(i:Nat):List Nat:=dX T (rank i) i
theorem rI{zi:Type}{d:zi}{l:List zi}{i:Nat}(h:l.length<=i):tab d l i=d:=by rewrite[tab];rewrite[IY];rw[Gs h];rfl
theorem WC{i p:Nat}(h:par i=JS p):i<18:=I6 λq=>by rw[par,rI q]at h;cases h
theorem vF{i p:Nat}(h:par i=JS p):rank i=rank p+1:=by
 obtain this:∀i<18,∀p,par i=JS p->rank i=rank p+1:=by
  obtain this:∀i<18,(match par i with|JS p=>JG (rank i) (rank p+1)|none=>JQ)=JQ:=by decide+kernel
  intro i hi p hp;obtain this:=this i hi;rw[hp]at this;exact JD this
 exact this i (WC h) p h
theorem nN{T:Tb}{i p:Nat}(h:par i=JS p):ln T i=step T i (ln T p):=by unfold ln;rw[vF h];show step T i (match par i with|JS p'=>dX T (rank p) p'|none=>[])=_;rw[h]
theorem kX{i:Nat}(h:par i=none):rank i=0:=by
 obtain this:∀i<18,par i=none->rank i=0:=by decide+kernel
 by_cases q:i<18;.exact this i q h
 .rewrite[rank];rw[rI (by simpa using q)]
theorem lF{T:Tb}{i:Nat}(h:par i=none):ln T i=step T i []:=by unfold ln;rw[kX h];rfl
noncomputable def y_(k:List Nat):List (List Nat×z7)->Option z7|[]=>none|(a,v)::r=>match zR k a with|JQ=>JS v|JT=>y_ k r
noncomputable def xB(k:List Nat)(v:z7):List (List Nat×z7)->List (List Nat×z7)|[]=>[(k,v)]|(a,w)::r=>match zR k a with|JQ=>(a,v)::r|JT=>(a,w)::xB k v r
noncomputable def ra(k:List Nat):List (List Nat×z7)->List (List Nat×z7)|[]=>[]|(a,w)::r=>match zR k a with|JQ=>r|JT=>(a,w)::ra k r
noncomputable def yF(f:z7->V)(ms:List (List Nat×z7)):List (List Nat×V):=ms.map λp=>(p.1,f p.2)
section
variable{f:z7->V}{k:List Nat}{v:z7}
theorem qv:∀{ms:List (List Nat×z7)},zG k (yF f ms)=(y_ k ms).map f|[]=>rfl|(a,w)::r=>by show(match zR k a with|JQ=>JS (f w)|JT=>zG k (yF f r))=(match zR k a with|JQ=>JS w|JT=>y_ k r).map f;cases zR k a with|true=>rfl|false=>exact qv
theorem mC:∀{ms:List (List Nat×z7)},dput k (f v) (yF f ms)=yF f (xB k v ms)|[]=>rfl|(a,w)::r=>by show(match zR k a with|JQ=>(a,f v)::yF f r|JT=>(a,f w)::dput k (f v) (yF f r))=yF f (match zR k a with|JQ=>(a,v)::r|JT=>(a,w)::xB k v r);cases zR k a with|true=>rfl|false=>exact congrArg ((a,f w)::.) mC
theorem gB:∀{ms:List (List Nat×z7)},sq k (yF f ms)=yF f (ra k ms)|[]=>rfl|(a,w)::r=>by show(match zR k a with|JQ=>yF f r|JT=>(a,f w)::sq k (yF f r))=yF f (match zR k a with|JQ=>r|JT=>(a,w)::ra k r);cases zR k a with|true=>rfl|false=>exact congrArg ((a,f w)::.) gB
theorem lX:∀{ms:List (List Nat×z7)},y_ k ms=JS v->(k,v)∈ms|(a,w)::r,h=>by have h:(match zR k a with|JQ=>JS w|JT=>y_ k r)=JS v:=h;cases q:zR k a with|true=>rw[q]at h;cases h;rw[xj.mp q];exact .head _|false=>rw[q]at h;exact .tail _ (lX h)
theorem jD{p:List Nat×z7}:∀{ms:List (List Nat×z7)},p∈xB k v ms->p∈ms\/p=(k,v)
|[],h=>.inr (JP.mp h)
|(a,w)::r,h=>by
 have h:p∈(match zR k a with|JQ=>(a,v)::r|JT=>(a,w)::xB k v r):=h;cases q:zR k a with
 |true=>
  rw[q]at h;rcases JJ.mp h with e|e;.rw[<-xj.mp q]at e;exact .inr e
  .exact .inl (.tail _ e)
 |false=>
  rw[q]at h;rcases JJ.mp h with e|e;.rw[e];exact .inl (.head _)
  .exact(jD e).imp (.tail _) id
theorem PD{a:List Nat}{ms:List (List Nat×z7)}(h:a∈(xB k v ms).map (·.1)):a=k∨a∈ms.map (·.1):=by obtain⟨p,hp,rfl⟩:=IG.mp h;exact(jD hp).elim (fun h=>.inr (IG.mpr ⟨p,h,rfl⟩)) fun h=>.inl (by rw[h])
theorem eK:∀{ms:List (List Nat×z7)},(ms.map (·.1)).Nodup→((xB k v ms).map (·.1)).Nodup
|[],zo=>Ia.mpr ⟨fun h=>(nomatch h),HZ⟩
|(a,w)::r,h=>by
 obtain⟨h1,h2⟩:=Ia.mp h;show(List.map (fun p:List Nat×z7=>p.1) (match zR k a with|JQ=>(a,v)::r|JT=>(a,w)::xB k v r)).Nodup;cases q:zR k a with
 |true=>exact h
 |false=>
  refine Ia.mpr ⟨fun z=>?_,eK h2⟩;rcases PD z with e|e;·have:k=a:=e.symm;rw[xj.mpr this]at q;cases q
  ·exact h1 e
theorem nr:∀{ms:List (List Nat×z7)},(ra k ms).Sublist ms|[]=>.slnil|(a,w)::r=>by show(match zR k a with|JQ=>r|JT=>(a,w)::ra k r).Sublist _;cases zR k a with|true=>exact .cons _ (List.Sublist.refl _)|false=>exact .cons_cons _ nr
end
theorem dE{zi:Type} [DecidableEq zi]:∀{l k:List zi},l.Nodup->(∀x∈l,x∈k)->l.length<=k.length|[],zo,zY,zH=>I4 _|a::l,k,h,hs=>by obtain⟨h1,h2⟩:=Ia.mp h;have:l.length<=(k.erase a).length:=dE h2 λx hx=>(List.mem_erase_of_ne (show x≠a fromλe=>h1 (e▸hx))).mpr (hs x (.tail _ hx));rw[List.length_erase_of_mem (hs a (.head _))]at this;have:=List.length_pos_of_mem (hs a (.head _));show l.length+1<=_;lia
noncomputable def jT:List (List Nat):=[[],[8],[9],[8,9],[9,8]]
noncomputable def vt(c:Bool)(i:Nat):List (List Nat):=if[5,6,7,10,11,12,15,16,17].contains i then jT else if JG i 8 then[[],[9]]else if JG i 2&&!c then[[1]]else[[]]
noncomputable def vd:List (List Nat):=[[112,117,98,108,105,99],[112,114,105,118,97,116,101],[112,114,111,116,101,99,116,101,100]]
noncomputable def yH:List (List Nat):=[[97],[98],[99]]
structure wQ(h:z7):Prop where
 s:h.s∈vd
 n:h.n∈yH
 b:∀t,h.b=some t->plainS t=true/\short t=true
 o:h.o<18
structure WF(T:Tb):Prop where
 li:∀i c,(T i).li c∈vt c i
 ks:∀i,∀p∈(T i).ms,p.1∈yH∧wQ p.2
 nd:∀i,((T i).ms.map (·.1)).Nodup
theorem WF.uH{T:Tb}(w:WF T)(i:Nat):(T i).ms.length<=3:=by
 obtain this:=dE (k:=yH) (w.nd i) λx hx=>by obtain⟨p,hp,rfl⟩:=IG.mp hx;exact(w.ks i p hp).1
 rw[JN]at this;exact this
theorem xN{zi:Type}{l:List zi}(h:l.length<=1000):short l=JQ:=Iw (J4 h (by decide))
theorem WF.short{T:Tb}(w:WF T){f:z7->V}(i:Nat):short (yF f (T i).ms)=JQ:=xN (by obtain this:=w.uH i;rewrite[yF];rw[JN];lia)
structure Dt where
 w:Nat
 kn:Nat
 zE:Int
 ad:Nat->Nat
 da:Nat->Nat
 la:Bool->Nat->Nat
 on:Nat->Bool
 nu:Nat->Int
 T:Tb
noncomputable def rf(ad:Nat->Nat)(l:List Nat):List V:=refs (l.map ad)
noncomputable def Dt.opt(D:Dt)(o:Option Nat):V:=match o with|JS j=>if D.on j then .ref (D.ad j)else .none|none=>.none
noncomputable def mf(a1 a2 a3 mx ah:Nat)(nu C own xr:V)(ic:Bool)(pa at_ nat kp:V):Loc:=[(17,nu),(18,C),(114,.ref a1),(24,own),(106,.bool JT),(104,.none),(0,xr),(21,.bool ic),(11,pa),(42,.none),(19,.ref a2),(174,.ref a3),(80,.ref mx),(94,.ref ah),(41,at_),(34,nat),(61,kp)]
noncomputable def Dt.w_(D:Dt)(i a1 a3:Nat)(kp:V):Loc:=mf a1 (D.da i) a3 (D.la JT i) (D.la JQ i) (.int (D.nu i)) (.ref (D.ad (if yf i then 4 else 3))) (D.opt (yr i)) (qc i) (yf i) (D.opt (par i)) (D.opt (yT i)) (yG i) kp
noncomputable def Dt.tY(D:Dt)(i a:Nat):Loc:=[(17,.int (D.nu i)),(18,.ref (D.ad (i-15))),(114,.ref a),(24,D.opt (yr i)),(106,.bool JT),(104,.none)]
noncomputable def wf(w:Nat)(num zE:Int)(main:V):Loc:=[(107,.ref (w-2)),(98,.ref (w-1)),(110,.none),(120,.int 1000000),(162,.int 0),(128,.int num),(179,.int 8),(184,.ref (w+1)),(76,.ref (w+2)),(99,.int zE),(183,.int 0),(170,.ref (w+3)),(156,.ref (w+4)),(124,.bool JQ),(157,main)]
noncomputable def Dt.wm(D:Dt)(h:z7):Loc:=[(0,.str h.n),(18,.ref (D.ad h.o)),(35,.str (match h.b with|JS _=>[114,101,97,100,101,114]|none=>[110,111,110,101])),(89,.none),(63,match h.b with|JS t=>.str t|none=>.none),(14,.str h.s),(115,.tup []),(111,.none)]
noncomputable def tn(h:z7):V:=.ref h.e
noncomputable def ux(D:Dt):List (List Nat×V):=[([79,98,106,101,99,116],.ref (D.ad 2)),([67,108,97,115,115],.ref (D.ad 4)),([75,101,114,110,101,108],.ref (D.ad 1)),([65],.ref (D.ad 5)),([66],.ref (D.ad 6)),([77],.ref (D.ad 8)),([78],.ref (D.ad 9)),([97],.ref (D.ad 20)),([99],.ref (D.ad 21))]++(match D.on 7 with|JQ=>[([67],.ref (D.ad 7))]|JT=>[])
noncomputable def u0:List (List Nat):=[[83,116,114,105,110,103],[67,111,109,112,97,114,97,98,108,101],[69,120,99,101,112,116,105,111,110],[83,116,97,110,100,97,114,100,69,114,114,111,114],[65,114,103,117,109,101,110,116,69,114,114,111,114],[78,97,109,101,69,114,114,111,114],[84,121,112,101,69,114,114,111,114]]
noncomputable def xd(J:St)(n:Nat)(s:List Nat):Prop:=∃fs,J[n]?=JS (.inst 228 fs)/\C3 (lk 0 fs=JS (.str s)) (lk 41 fs=JS .none) (lk 42 fs=JS .none)
structure r6(J:St)(D:Dt)(md:List (List Nat×V)):Prop where
 j:∀j,j<5→zG (wK j) md=some (.ref (D.ad j))
 e:∀s∈u0,∀v,zG s md=some v→∃n,v=.ref n∧xd J n s
 nd:(md.map (·.1)).Nodup
 ks:∀k∈md.map (·.1),k∈u0∨∃j,j<5∧k=wK j
structure v9(D:Dt):Prop where
 inj:∀i j,D.on i=true->D.on j=true->D.nu i=D.nu j->i=j
 lo:∀i,D.on i=true->C3 (D.w+5<=D.ad i) (D.w+5<=D.da i) (∀c,D.w+5<=D.la c i)
 w2:4<=D.w
 kn:D.w+5<=D.kn
 di:∀i j,D.on i=true->D.on j=true->i<18->j<18->D.da i=D.da j->i=j
 dk:∀i,D.on i=true->i<18->D.da i≠D.kn
 li:∀i j c e,D.on i=true->D.on j=true->i<18->j<18->D.la c i=D.la e j->i=j/\c=e
 pm:∀i p,D.on i=true->par i=some p->D.on p=true
 om:∀i,i<10->i≠7->D.on i=true
 tm:D.on 20=true/\D.on 21=true
 bd:∀i,D.on i=true->i<18\/i=20\/i=21
 un:∀i,D.on i=false->(∀c,(D.T i).li c=if Nat.beq i 2&&!c then[1]else[])/\(D.T i).ms=[]
 a7:D.on 17=true->D.on 7=true
 wf:WF D.T
section
variable(J:St)(D:Dt)
noncomputable def mW(i:Nat)(kp:V):Prop:=kp=.none\/X2 λv l=>C3 (kp=.tup [.int v,.ref l]) (v<=D.zE) (v=D.zE->D.w<=l/\J[l]?=JS (.list (rf D.ad (ln D.T i))))
structure RI:Prop where
 wo:X2 λnum main=>J[D.w]?=some (.inst 899 (wf D.w num D.zE main))/\∀i,D.on i=true->D.nu i<=num
 md:∃md,J[D.w+2]?=some (.dict md)/\r6 J D md
 c0:J[0]?=some (.v7 oN)
 c1:J[1]?=some (.v7 nJ)
 n0:J[D.w-2]?=some (.dict [])
 n1:J[D.w-1]?=some (.dict [])
 kn:J[D.kn]?=some (.dict (ux D))
 oo:∀i,D.on i=true->i<18->X3 λkp a1 a3=>J[D.ad i]?=some (.inst 228 (D.w_ i a1 a3 kp))/\mW J D i kp
 mm:∀i,D.on i=true->i<18->J[D.da i]?=some (.dict (yF tn (D.T i).ms))
 ee:∀i,D.on i=true->i<18->∀p∈(D.T i).ms,J[p.2.e]?=some (.inst 256 (D.wm p.2))/\D.on p.2.o=true
 ll:∀i c,D.on i=true->i<18->J[D.la c i]?=some (.list (rf D.ad ((D.T i).li c)))
 th:∀i,D.on i=true->18<=i->∃a,J[D.ad i]?=some (.inst 40 (D.tY i a))
 s:v9 D
end
noncomputable def Kp(J zy:St):Prop:=J.length<=zy.length/\∀(r:Nat)(o:O),J[r]?=JS o->zy[r]?=JS o\/X2 λfs xF=>C3 (o=O.inst 228 fs) (zy[r]?=JS (O.inst 228 xF)) (∀x,JG x 61=JT->lk x xF=lk x fs)
noncomputable def Bt(rs:List Nat)(J zy:St):Prop:=J.length<=zy.length/\∀(r:Nat)(o:O),J[r]?=JS o->r∉rs->zy[r]?=JS o
section
variable{J zt zy:St}{D:Dt}{i:Nat}{rs:List Nat}
theorem Kp.of(g:Gr J zy):Kp J zy:=⟨g.1,λzz zz h=>.inl (g.get h)⟩
theorem Kp.re:Kp J J:=.of .rfl
theorem Kp.tr(a:Kp J zt)(b:Kp zt zy):Kp J zy:=⟨J4 a.1 b.1,λr o h=>by
rcases a.2 r o h with e|⟨fs,xF,rfl,e,q⟩;.exact b.2 r o e
.refine .inr ?_;rcases b.2 r _ e with e'|⟨f1,f2,z,e',q'⟩;.exact⟨fs,xF,rfl,e',q⟩
 .cases z;exact⟨fs,f2,rfl,e',λx hx=>(q' x hx).trans (q x hx)⟩⟩
noncomputable def pC:O->Bool|.inst c zo=>!JG c 228|_=>JQ
theorem Kp.get(a:Kp J zy){r:Nat}{o:O}(h:J[r]?=JS o)(ho:pC o=JQ:=by rfl):zy[r]?=JS o:=(a.2 r o h).elim id λ⟨fs,zo,e,zY,zH⟩=>by rw[e]at ho;cases ho
theorem Bt.of(g:Gr J zy):Bt rs J zy:=⟨g.1,λzz zz h zz=>g.get h⟩
theorem Bt.re:Bt rs J J:=.of .rfl
theorem Bt.tr(a:Bt rs J zt)(b:Bt rs zt zy):Bt rs J zy:=⟨J4 a.1 b.1,λr o h n=>b.2 r o (a.2 r o h n) n⟩
theorem Bt.set{r:Nat}(o:O)(h:r∈rs\/J.length<=r)(a:Bt rs J zy):Bt rs J (zy.set r o):=⟨by rw[IB];exact a.1,λk p e n=>by
rw[Hl λz=>?_]at⊢;.exact a.2 k p e n
.subst z;exact h.elim n λh=>absurd (y0 e) (GX.mpr h)⟩
theorem get_set{r:Nat}{o p:O}(h:J[r]?=JS p):(J.set r o)[r]?=JS o:=II (y0 h)
theorem zK{r k:Nat}{o p:O}(h:J[k]?=JS p)(n:r≠k):(J.set r o)[k]?=JS p:=by rw[Hl n];exact h
theorem uv{ad:Nat->Nat}{l:List Nat}:(rf ad l).length=l.length:=by rewrite[rf];rewrite[cT];rw[JN]
theorem iF{ad:Nat->Nat}{l:List Nat}{i n:Nat}(h:l[i]?=JS n):(rf ad l)[i]?=JS (.ref (ad n)):=Vp (by rewrite[JF];rw[h];rfl)
theorem qV{ad:Nat->Nat}{l k:List Nat}:rf ad (l++k)=rf ad l++rf ad k:=by unfold rf refs;rewrite[I0];rw[I0]
theorem Vl{ad:Nat->Nat}{l:List Nat}:(rf ad l).reverse=rf ad l.reverse:=by unfold rf refs;rewrite[Gp];rw[Gp]
theorem sG{ad:Nat->Nat}{l:List Nat}(h:l.length<=1000):short (rf ad l)=JQ:=xN (by rw[uv];exact h)
theorem xd.kp{n:Nat}{s:List Nat}(k:Kp J zy)(h:xd J n s):xd zy n s:=by
 obtain⟨fs,h1,h2,h3,h4⟩:=h;rcases k.2 n _ h1 with e|⟨f,f',e,e',q⟩;.exact⟨fs,e,h2,h3,h4⟩
 .cases e;exact⟨f',e',(q _ rfl).trans h2,(q _ rfl).trans h3,(q _ rfl).trans h4⟩
theorem r6.to{md:List (List Nat×V)}(k:∀n s,xd J n s->xd zy n s)(h:r6 J D md):r6 zy D md:=⟨h.j,λs hs v hv=>let⟨n,e,m⟩:=h.e s hs v hv;⟨n,e,k n s m⟩,h.nd,h.ks⟩
theorem RI.iY(R:RI J D){i j:Nat}(hi:D.on i=JQ)(hj:D.on j=JQ)(n:i≠j):D.ad i≠D.ad j:=λe=>by
 have hn:∀i,D.on i=JQ->X2 λc fs=>J[D.ad i]?=JS (.inst c fs)/\lk 17 fs=JS (.int (D.nu i)):=λi hi=>by
  by_cases h:i<18;.obtain⟨kp,a1,a3,h1,_⟩:=R.oo i hi h;exact⟨_,_,h1,rfl⟩
  .obtain⟨a,h1⟩:=R.th i hi (IU h);exact⟨_,_,h1,rfl⟩
 obtain⟨c,fs,h1,h2⟩:=hn i hi;obtain⟨c',xF,xD,tp⟩:=hn j hj;rw[e,xD]at h1;cases h1;replace tp:=h2.symm.trans tp;injection tp with q;injection q with q;exact n (R.s.inj i j hi hj q)
end
noncomputable def N7:O->Bool|.inst c zo=>!(JG c 228||JG c 899)|_=>JQ
section
variable{J zt zy:St}{D:Dt}{i:Nat}
theorem RI.iX(R:RI J D){r:Nat}{o:O}(h:J[r]?=JS o)(ho:JG o.ctorIdx 1=JT:=by rfl):r≠D.w+2:=λe=>by obtain⟨md,h1,_⟩:=R.md;rw[e,h1]at h;cases h;cases ho
theorem RI.same(R:RI J D)(k:∀r o,J[r]?=JS o->r≠D.w+2->N7 o=JQ->zy[r]?=JS o)(wo:X2 λnum main=>zy[D.w]?=JS (.inst 899 (wf D.w num D.zE main))/\∀i,D.on i=JQ->D.nu i<=num)(md:∃md,zy[D.w+2]?=JS (.dict md)/\r6 zy D md)(oo:∀i,D.on i=JQ->i<18->X3 λkp a1 a3=>zy[D.ad i]?=JS (.inst 228 (D.w_ i a1 a3 kp))/\mW J D i kp):RI zy D:=by
 obtain w2:=R.s.w2;refine⟨wo,md,k _ _ R.c0 (by lia) rfl,k _ _ R.c1 (by lia) rfl,k _ _ R.n0 (by lia) rfl,k _ _ R.n1 (by lia) rfl,k _ _ R.kn (by obtain this:=R.s.kn;lia) rfl,λi hi h=>?_,λi hi h=>k _ _ (R.mm i hi h) (by obtain this:=(R.s.lo i hi).2;lia) rfl,λi hi h p hp=>?_,λi c hi h=>k _ _ (R.ll i c hi h) (by obtain this:=(R.s.lo i hi).3 c;lia) rfl,λi hi h=>?_,R.s⟩;.obtain⟨kp,a1,a3,h1,h2⟩:=oo i hi h;exact⟨kp,a1,a3,h1,h2.imp id λ⟨v,l,e1,e2,e3⟩=>⟨v,l,e1,e2,λq=>⟨(e3 q).1,k _ _ (e3 q).2 (R.iX (e3 q).2) rfl⟩⟩⟩
 .obtain⟨h1,h2⟩:=R.ee i hi h p hp;exact⟨k _ _ h1 (R.iX h1) rfl,h2⟩
 .obtain⟨a,h1⟩:=R.th i hi h;exact⟨a,k _ _ h1 (R.iX h1) rfl⟩
theorem RI.gr(R:RI J D)(g:Gr J zy):RI zy D:=R.same (λzz zz h zz zz=>g.get h) (let⟨n,m,h,l⟩:=R.wo;⟨n,m,g.get h,l⟩) (let⟨md,h,e⟩:=R.md;⟨md,g.get h,e.to λzz zz=>xd.kp (.of g)⟩) λi hi h=>let⟨kp,a1,a3,h1,h2⟩:=R.oo i hi h;⟨kp,a1,a3,g.get h1,h2⟩
theorem RI.kept(R:RI J D){l a1 a3:Nat}{kp:V}(hi:D.on i=JQ)(hm:i<18)(h:J[D.ad i]?=JS (.inst 228 (D.w_ i a1 a3 kp)))(hl:J[l]?=JS (.list (rf D.ad (ln D.T i))))(pS:D.w<=l):RI (J.set (D.ad i) (.inst 228 (D.w_ i a1 a3 (.tup [.int D.zE,.ref l])))) D/\Kp J (J.set (D.ad i) (.inst 228 (D.w_ i a1 a3 (.tup [.int D.zE,.ref l])))):=by
 have rT:Kp J (J.set (D.ad i) (.inst 228 (D.w_ i a1 a3 (.tup [.int D.zE,.ref l])))):=by
  refine⟨by rw[IB];exact JK _,λr o hr=>?_⟩;by_cases q:D.ad i=r;.subst q;replace hr:=yc h hr;cases hr;refine .inr ⟨_,_,rfl,II (y0 h),λx hx=>?_⟩;unfold Dt.w_ mf;simp only[lk,hx]
  .exact .inl (zK hr q)
 refine⟨R.same (λr o hr zz ho=>(rT.2 r o hr).elim id λ⟨zo,zY,e,zH,ya⟩=>by rw[e]at ho;cases ho) (let⟨n,m,h,l⟩:=R.wo;⟨n,m,rT.get h,l⟩) (let⟨md,h,e⟩:=R.md;⟨md,rT.get h,e.to λzz zz=>xd.kp rT⟩) λj hj vX=>?_,rT⟩;by_cases q:i=j;.subst q;exact⟨_,a1,a3,get_set h,.inr ⟨_,l,rfl,Int.le_refl _,λzz=>⟨pS,hl⟩⟩⟩
 .obtain⟨kp,b1,b3,h1,h2⟩:=R.oo j hj vX;exact⟨kp,b1,b3,zK h1 (R.iY hi hj q),h2⟩
theorem RI.kQ(R:RI J D)(hi:D.on i=JQ):nW J (D.ad i) (D.nu i):=by
 by_cases h:i<18;.obtain⟨kp,a1,a3,h1,_⟩:=R.oo i hi h;exact⟨_,_,h1,.inl rfl,rfl⟩
 .obtain⟨a,h1⟩:=R.th i hi (IU h);exact⟨_,_,h1,.inr rfl,rfl⟩
theorem RI.beq(R:RI J D){i j:Nat}(hi:D.on i=JQ)(hj:D.on j=JQ):(D.nu i==D.nu j)=(i==j)/\(D.ad i==D.ad j)=(i==j):=by
 by_cases h:i=j;.subst h;exact⟨by rewrite[beq_self_eq_true];rw[beq_self_eq_true],by rewrite[beq_self_eq_true];rw[beq_self_eq_true]⟩
 .exact⟨(beq_false_of_ne λe=>h (R.s.inj i j hi hj e)).trans (beq_false_of_ne h).symm,(beq_false_of_ne (R.iY hi hj h)).trans (beq_false_of_ne h).symm⟩
theorem RI.aW(R:RI J D)(hi:D.on i=JQ):∀{xs:List Nat},(∀x∈xs,D.on x=JQ)->(xs.map D.ad).contains (D.ad i)=xs.contains i|[],zo=>rfl|x::xs,h=>by rewrite[It];rewrite[Iy];rewrite[Iy];rewrite[(R.beq hi (h x (.head _))).2];rw[R.aW hi λy hy=>h y (.tail _ hy)]
structure Ask(D:Dt)(J zy:St):Prop where
 r:RI zy D
 k:Kp J zy
theorem Ask.of(R:RI J D)(g:Gr J zy):Ask D J zy:=⟨R.gr g,.of g⟩
theorem Ask.tr(a:Ask D J zt)(b:Ask D zt zy):Ask D J zy:=⟨b.r,a.k.tr b.k⟩
theorem Ask.push(a:Ask D J zy)(o:O):Ask D J (zy++[o]):=a.tr (.of a.r (Gr.push o))
end
section
variable{T:Tb}
theorem WQ(c:Bool)(i:Nat):∀l∈vt c i,l∈[1]::jT:=by
 unfold vt;split;.exactλzz h=>.tail _ h
 .split;.exactλl h=>by revert l;decide
  .split<;>exactλl h=>by revert l;decide
theorem WF.pf(w:WF T){i x:Nat}{c:Bool}(h:x∈(T i).li c):x=1\/x=8\/x=9:=by
 obtain this:∀l∈[1]::jT,∀x∈l,x=1\/x=8\/x=9:=by decide
 exact this _ (WQ c i _ (w.li i c)) x h
theorem WF.two(w:WF T)(i:Nat)(c:Bool):((T i).li c).length<=2:=by
 obtain this:∀l∈[1]::jT,l.length<=2:=by decide
 exact this _ (WQ c i _ (w.li i c))
noncomputable def Dp(T:Tb):Nat->Nat->Prop|0,m=>∀c,(T m).li c=[]|k+1,m=>∀c,∀x∈(T m).li c,Dp T k x
theorem WF.j_(w:WF T){x:Nat}(h:x=1\/x=9):Dp T 0 x:=λc=>by obtain this:=w.li x c;rcases h with rfl|rfl<;>cases c<;>exact JP.mp this
theorem WF.Z7(w:WF T){x:Nat}(h:x=1\/x=8\/x=9):Dp T 1 x:=λc y hy=>by
 by_cases q:x=8
 .subst q;obtain this:∀c,∀l∈vt c 8,∀y∈l,y=9:=by decide+kernel
  exact w.j_ (.inr (this c _ (w.li 8 c) y hy))
 .rw[w.j_ (x:=x) (h.elim .inl λh=>h.elim (λh=>absurd h q) .inr) c]at hy;exact nomatch hy
theorem WF.Z6(w:WF T)(i:Nat):Dp T 2 i:=λzz zz h=>w.Z7 (w.pf h)
noncomputable def kz:Nat->Nat|0=>1|k+1=>1+4*kz k
theorem fO{f:Nat->List Nat}{c:Nat}(h:∀x,(f x).length<=c):∀l:List Nat,(l.flatMap f).length<=l.length*c|[]=>I4 _|x::l=>by rewrite[G9];rewrite[JO];rewrite[ID];rewrite[Nat.add_mul];rw[Nat.one_mul];have:=fO h l;have:=h x;lia
theorem WF.len(w:WF T):∀(k i:Nat),(own T k i).length<=kz k|0,zo=>JK _|k+1,i=>by have h1:=fO (w.len k) ((T i).li JQ).reverse;have h2:=fO (w.len k) ((T i).li JT).reverse;have h3:=FV (kz k) (w.two i JQ);have h4:=FV (kz k) (w.two i JT);rw[I5]at h1 h2;rewrite[own];rewrite[JO];rewrite[ID];rw[kz];lia
theorem WF.uI(w:WF T):∀(k i:Nat),k<=2->(own T k i).length<=21|0,i,zo=>J4 (w.len 0 i) (by decide)|1,i,zo=>J4 (w.len 1 i) (by decide)|2,i,zo=>w.len 2 i
theorem RI.mem(R:RI J D){i x:Nat}{c:Bool}(h:x∈(D.T i).li c):D.on x=JQ/\x<18:=by rcases R.s.wf.pf h with rfl|rfl|rfl<;>exact⟨R.s.om _ (by decide) (by decide),by decide⟩
theorem RI.kj(R:RI J D):∀(k:Nat){i:Nat},D.on i=JQ->i<18->∀x∈own D.T k i,D.on x=JQ/\x<18
|0,i,h,hm,x,hx=>by rw[JP.mp hx];exact⟨h,hm⟩
|k+1,i,h,hm,x,hx=>by
 have go:∀c,x∈((D.T i).li c).reverse.flatMap (own D.T k)->D.on x=JQ/\x<18:=λc hx=>by obtain⟨y,h1,h2⟩:=Ek.mp hx;obtain⟨a,b⟩:=R.mem (IM.mp h1);exact R.kj k a b x h2
 rcases I8.mp hx with hx|hx;.exact go JQ hx
 .rcases JJ.mp hx with e|hx;.rw[e];exact⟨h,hm⟩
  .exact go JT hx
end
theorem pI{F:Fr}{J:St}{n:Nat}{xs zs:List V}{v:V}(z9:F.s=JT)(hn:J[n]?=JS (.list xs))(hs:short xs=JQ)(e:xs++[v]=zs):Call F (.bi .nQ) [.ref n,v] J (.ok .none (J.set n (.list zs))):=e▸pH z9 hn hs
theorem VV{F:Fr}{J:St}{n:Nat}{xs zs:List V}{t:EU}(hn:J[n]?=JS (.list xs))(hs:short xs=JQ)(e:xs.reverse=zs):uA F (.ref n) .none .none (.int (-1) t) J (.ref J.length) (J++[.list zs]):=e▸i6 hn hs
noncomputable def X8:S:=.cons (.expr (.zl (.loc 4) 88 (.cons (.call (.zu 82) (.cons (.loc 5) .nil)) .nil))) .nil
theorem YZ{b:Bc}{ad:Nat->Nat}{e f s:Nat}{yx:St}{zs:List Nat}{G:Nat->List Nat}(IH:∀x∈zs,∀J,Gr yx J->X2 λl zy=>C4 (Call ⟨b,JT,JT,e⟩ (.fn 375) [.ref (ad x)] J (.ok (.ref l) zy)) (Gr J zy) (J.length<=l) (zy[l]?=JS (.list (rf ad (G x)))))(hf:yx.length<=f)(hs:s≠f):∀(r:Nat)(ys acc:List Nat)(L:Loc)(J:St),r<=zs.length->zs.drop (zs.length-r)=ys->ys.length=r->Gr yx J->J[f]?=JS (.list (rf ad acc))->J[s]?=JS (.list (rf ad zs))->lk 4 L=JS (.ref f)->(acc++ys.flatMap G).length<=1000->X2 λL' zy=>C5 (FL ⟨b,JT,JT,e⟩ [5] (.list s) (rf ad zs) X8 r L J (.ok .next L' zy)) (Gr yx zy) (zy[f]?=JS (.list (rf ad (acc++ys.flatMap G)))) (lk 4 L'=JS (.ref f)) (lk 2 L'=lk 2 L):=by
 intro r;induction r with
 |zero=>intro ys acc L J _ _ hl g jJ jC hL _;obtain this:ys=[]:=HX.mp hl;subst this;exact⟨L,J,.stop jC,g,by rewrite[List.flatMap_nil];rw[IV];exact jJ,hL,rfl⟩
 |succ r ih=>
  intro ys acc L J hr hd hl g jJ jC hL hB;cases ys with
  |nil=>cases hl
  |cons x ys=>
   obtain⟨h1,h2⟩:=Z5 hd hr;obtain⟨l,zt,c1,c2,c3,c4⟩:=IH x (J5 h1) J g;obtain qk:=c2.get jJ;have YB:(acc++G x++ys.flatMap G).length<=1000:=by rw[J'];exact hB
   obtain nc:short (rf ad acc++rf ad (G x))=JQ:=by rw[<-qV];exact sG (J4 (by rw[JO (as:=acc++G x)];exact Hy _ _) YB)
   obtain pR:(rf ad zs)[(rf ad zs).length-(r+1)]?=JS (.ref (ad x)):=by rw[uv];exact iF h1
   obtain hb:XB ⟨b,JT,JT,e⟩ (st 5 (.ref (ad x)) L) X8 J (.ok .next (st 5 (.ref (ad x)) L) (zt.set f (.list (rf ad acc++rf ad (G x))))):=zr (yJ (yo (zx (zg rfl hL)) (R5 jJ) (zp (y6 (fv:=.fn 375) (yp rfl) (zp (zx yz) zf) c1) zf) (Nm rfl qk c4 nc))) zj;obtain r_:(zt.set f (.list (rf ad acc++rf ad (G x))))[f]?=JS (.list (rf ad (acc++G x))):=by rewrite[II (y0 qk)];rw[qV]
   obtain P9:(zt.set f (.list (rf ad acc++rf ad (G x))))[s]?=JS (.list (rf ad zs)):=by rw[Hl (Hk hs)];exact c2.get jC
   obtain⟨L',zy,k1,k2,k3,k4,k5⟩:=ih ys (acc++G x) (st 5 (.ref (ad x)) L) (zt.set f (.list (rf ad acc++rf ad (G x)))) (by lia) h2 (I1 hl) ((g.tr c2).set hf) r_ P9 (zg rfl hL) YB;refine⟨L',zy,.turn jC pR rfl hb k1,k2,?_,k4,k5.trans (zg rfl rfl)⟩;rewrite[k3];rw[J'];rfl
theorem cX{b:Bc}{D:Dt}(d:Nat):∀(k i:Nat)(J:St),k<=2->D.on i=JQ->i<18->Dp D.T k i->RI J D->X2 λl zy=>C4 (Call ⟨b,JT,JT,d+(k+1)⟩ (.fn 375) [.ref (D.ad i)] J (.ok (.ref l) zy)) (Gr J zy) (J.length<=l) (zy[l]?=JS (.list (rf D.ad (own D.T k i)))):=by
 intro k;induction k with
 |zero=>
  intro i J _ hi ht dp R;obtain⟨kp,a1,a3,h1,_⟩:=R.oo i hi ht;have h5:=R.ll i JT hi ht;obtain h4:=R.ll i JQ hi ht;rw[dp]at h4;rw[dp]at h5;obtain g1:Gr J (J++[O.list []]):=Gr.push _;obtain fG:=g1.get h4;obtain g2:Gr J ((J++[O.list []])++[O.list []]):=g1.tr (Gr.push _);obtain hf:((J++[O.list []])++[O.list []])[J.length]?=JS (.list []):=(Gr.push _).get zA;obtain g3:Gr J (((J++[O.list []])++[O.list []]).set J.length (O.list [V.ref (D.ad i)])):=g2.set (JK _);obtain fF:=g3.get h5;refine⟨J.length,(((J++[O.list []])++[O.list []]).set J.length (O.list [V.ref (D.ad i)]))++[O.list []],?_,g3.tr (Gr.push _),JK _,?_⟩;.apply zI rfl rfl;refine zr (yu (y5 zf rfl)) ?_;refine zr (xe (t:=.list _) rfl (m6 (zM (zx rfl) (g1.get h1) rfl rfl) λzz=>i6 fG rfl) zA rfl (.stop zA)) ?_;refine zr (yJ (yo (zx rfl) (ug hf) (zp (zx rfl) zf) (by exact pH rfl hf rfl))) ?_;refine zr (xe (t:=.list _) rfl (m6 (zM (zx rfl) (g3.get h1) rfl rfl) λzz=>i6 fF rfl) zA rfl (.stop zA)) ?_;exact zT (zL (zx rfl))
  .refine(Gr.push _).get ?_;rw[II (y0 hf)];rfl
 |succ k ih=>
  intro i J hk hi ht dp R;obtain⟨kp,a1,a3,h1,_⟩:=R.oo i hi ht;obtain h5:=R.ll i JT hi ht;obtain h4:=R.ll i JQ hi ht;have IH:∀c,∀x∈(D.T i).li c,∀zy,Gr J zy->X2 λl zb=>C4 (Call ⟨b,JT,JT,d+(k+1)⟩ (.fn 375) [.ref (D.ad x)] zy (.ok (.ref l) zb)) (Gr zy zb) (zy.length<=l) (zb[l]?=JS (.list (rf D.ad (own D.T k x)))):=λc x hx zy g=>ih x zy (by lia) (R.mem hx).1 (R.mem hx).2 (dp c x hx) (R.gr g);have hb:=R.s.wf.uI (k+1) i hk;rw[own,JO,ID]at hb;obtain g1:Gr J (J++[O.list []]):=Gr.push _;obtain fG:=g1.get h4;obtain g2:Gr J ((J++[O.list []])++[O.list (rf D.ad ((D.T i).li JQ).reverse)]):=g1.tr (Gr.push _);obtain hf:((J++[O.list []])++[O.list (rf D.ad ((D.T i).li JQ).reverse)])[J.length]?=JS (.list (rf D.ad [])):=(Gr.push _).get zA;obtain⟨zN,zt,k1,k2,k3,k4,k5⟩:=YZ (s:=(J++[O.list []]).length) (λx hx=>IH JQ x (IM.mp hx)) (JK J.length) (by rw[JO];exact Em _) ((D.T i).li JQ).reverse.length ((D.T i).li JQ).reverse [] [(2,.ref (D.ad i)),(4,.ref J.length)] _ (JK _) (by rw[Hn];rfl) rfl g2 hf zA rfl (by rw[H9];lia);rw[H9]at k3;obtain km:lk 2 zN=JS (.ref (D.ad i)):=k5.trans rfl;obtain sf:short (rf D.ad (((D.T i).li JQ).reverse.flatMap (own D.T k)))=JQ:=sG (by lia);obtain e3:rf D.ad (((D.T i).li JQ).reverse.flatMap (own D.T k))++[.ref (D.ad i)]=rf D.ad (((D.T i).li JQ).reverse.flatMap (own D.T k)++[i]):=(qV (k:=[i])).symm;obtain g3:Gr J (zt.set J.length (.list (rf D.ad (((D.T i).li JQ).reverse.flatMap (own D.T k)++[i])))):=k2.set (JK _);obtain Pm:(zt.set J.length (.list (rf D.ad (((D.T i).li JQ).reverse.flatMap (own D.T k)++[i]))))[J.length]?=JS (.list (rf D.ad (((D.T i).li JQ).reverse.flatMap (own D.T k)++[i]))):=II (y0 k3);obtain fF:=g3.get h5;obtain g4:=g3.tr (Gr.push (.list (rf D.ad ((D.T i).li JT).reverse)));obtain⟨yi,zb,j1,j2,j3,j4,j5⟩:=YZ (s:=(zt.set J.length (.list (rf D.ad (((D.T i).li JQ).reverse.flatMap (own D.T k)++[i])))).length) (λx hx=>IH JT x (IM.mp hx)) (JK J.length) (by rw[IB];exact Hk (IP (y0 k3))) ((D.T i).li JT).reverse.length ((D.T i).li JT).reverse (((D.T i).li JQ).reverse.flatMap (own D.T k)++[i]) zN _ (JK _) (by rw[Hn];rfl) rfl g4 ((Gr.push _).get Pm) zA k4 (by rewrite[JO];rewrite[JO];rw[Il];lia);refine⟨J.length,zb,?_,j2,JK _,?_⟩;.apply zI rfl rfl;refine zr (yu (y5 zf rfl)) ?_;refine zr (xe (t:=.list _) rfl (m6 (zM (zx rfl) (g1.get h1) rfl rfl) λzz=>VV fG (sG (by obtain this:=R.s.wf.two i JQ;lia)) Vl) zA rfl (by rw[uv];exact k1)) ?_;refine zr (yJ (yo (zx k4) (ug k3) (zp (zx km) zf) (by exact pI rfl k3 sf e3))) ?_;refine zr (xe (t:=.list _) rfl (m6 (zM (zx km) (g3.get h1) rfl rfl) λzz=>VV fF (sG (by obtain this:=R.s.wf.two i JT;lia)) Vl) zA rfl (by rw[uv];exact j1)) ?_;exact zT (zL (zx j4))
  .rewrite[j3];rewrite[own];rw[J'];rfl
theorem drop_cons{zi:Type}{zs ys:List zi}{p:Nat}{z:zi}(h:zs.drop p=z::ys):C3 (zs[p]?=JS z) (zs.drop (p+1)=ys) (p<zs.length):=by
 obtain h1:zs[p]?=JS z:=by rewrite[<-Ec];rw[h];rfl
 exact⟨h1,by rewrite[<-EW];rw[h];rfl,(J9.mp h1).1⟩
theorem FL.go{zi:Type}{F:Fr}{xs:List Nat}{t:IT}{l:List V}{b:S}{zs:List zi}{g:Nat->zi->V}(hlen:l.length=zs.length)(hg:∀(p:Nat)(z:zi),zs[p]?=JS z->l[p]?=JS (g p z)){P:Nat->List zi->Loc->St->Prop}{Q:V->St->Prop}(hl:∀p ys L J,P p ys L J->t.is l J)(hs:∀p z ys L J,zs[p]?=JS z->zs.drop (p+1)=ys->P p (z::ys) L J->X3 λzN yi zt=>vP xs (g p z) L=JS zN/\(XB F zN b J (.ok .next yi zt)/\P (p+1) ys yi zt\/∃v,XB F zN b J (.ok (.ret v) yi zt)/\Q v zt)):∀(r p:Nat)(ys:List zi)(L:Loc)(J:St),r+p=zs.length->zs.drop p=ys->P p ys L J->X2 λL' zy=>FL F xs t l b r L J (.ok .next L' zy)/\P zs.length [] L' zy\/∃v,FL F xs t l b r L J (.ok (.ret v) L' zy)/\Q v zy:=by
 intro r;induction r with
 |zero=>
  intro p ys L J e hd hP;have:p=zs.length:=by lia
  subst this;replace hd:=Ej.symm.trans hd;subst hd;exact⟨L,J,.inl ⟨.stop (hl _ _ _ _ hP),hP⟩⟩
 |succ r ih=>
  intro p ys L J e hd hP;cases ys with
  |nil=>have:=congrArg H6 hd;rw[Gm,Hh]at this;lia
  |cons z ys=>
   obtain⟨h1,h2,_⟩:=drop_cons hd;have hx:l[l.length-(r+1)]?=JS (g p z):=by rw[show l.length-(r+1)=p by lia];exact hg p z h1
   obtain⟨zN,yi,zt,hb,q⟩:=hs p z ys L J h1 h2 hP;rcases q with⟨k,q⟩|⟨v,k,q⟩;.obtain⟨L',zy,z⟩:=ih (p+1) ys yi zt (by lia) h2 q;refine⟨L',zy,z.imp (λ⟨a,c⟩=>⟨.turn (hl _ _ _ _ hP) hx hb k a,c⟩) λ⟨v,a,c⟩=>⟨v,.turn (hl _ _ _ _ hP) hx hb k a,c⟩⟩
   .exact⟨yi,zt,.inr ⟨v,.ret (hl _ _ _ _ hP) hx hb k,q⟩⟩
theorem FL.all{zi:Type}{F:Fr}{xs:List Nat}{t:IT}{l:List V}{b:S}{zs:List zi}{g:Nat->zi->V}(hlen:l.length=zs.length)(hg:∀(p:Nat)(z:zi),zs[p]?=JS z->l[p]?=JS (g p z)){P:Nat->List zi->Loc->St->Prop}(hl:∀p ys L J,P p ys L J->t.is l J)(hs:∀p z ys L J,zs[p]?=JS z->zs.drop (p+1)=ys->P p (z::ys) L J->X3 λzN yi zt=>C3 (vP xs (g p z) L=JS zN) (XB F zN b J (.ok .next yi zt)) (P (p+1) ys yi zt)){L:Loc}{J:St}(h:P 0 zs L J):X2 λL' zy=>FL F xs t l b l.length L J (.ok .next L' zy)/\P zs.length [] L' zy:=by obtain⟨L',zy,z⟩:=FL.go (Q:=λzz zz=>False) hlen hg hl (λp z ys L J a c d=>let⟨zN,yi,zt,e1,e2,e3⟩:=hs p z ys L J a c d;⟨zN,yi,zt,e1,.inl ⟨e2,e3⟩⟩) l.length 0 zs L J hlen rfl h;exact z.elim (λz=>⟨L',zy,z⟩) λ⟨zo,zY,z⟩=>z.elim
theorem CL.go{zi:Type}{F:Fr}{L:Loc}{xs:List Nat}{t:IT}{l:List V}{elt yd:M}{n0:Nat}{zs:List zi}{g:Nat->zi->V}(hlen:l.length=zs.length)(hg:∀(p:Nat)(z:zi),zs[p]?=JS z->l[p]?=JS (g p z)){P:Nat->List zi->List V->St->Prop}(hl:∀p ys acc J,P p ys acc J->t.is l J)(hs:∀p z ys acc J,zs[p]?=JS z->zs.drop (p+1)=ys->P p (z::ys) acc J->X2 λzN zt=>vP xs (g p z) L=JS zN/\((∃c,C3 (yd=.cons c .nil) (E {F with s:=t.d} zN c J (.ok (.bool JT) zt)) (P (p+1) ys acc zt))\/X2 λzb y=>C5 (yd=.nil/\zt=J\/∃c,yd=.cons c .nil/\E {F with s:=t.d} zN c J (.ok (.bool JQ) zt)) (E {F with s:=t.d} zN elt zt (.ok y zb)) (zb[n0]?=JS (.list acc)) (short acc=JQ) (P (p+1) ys (acc++[y]) (zb.set n0 (.list (acc++[y])))))):∀(r p:Nat)(ys:List zi)(acc:List V)(J:St),r+p=zs.length->zs.drop p=ys->P p ys acc J->X2 λoR zy=>CL F L xs t l elt yd n0 r acc J oR zy/\P zs.length [] oR zy:=by
 intro r;induction r with
 |zero=>
  intro p ys acc J e hd hP;obtain this:p=zs.length:=by lia
  subst this;replace hd:=Ej.symm.trans hd;subst hd;exact⟨acc,J,.stop (hl _ _ _ _ hP),hP⟩
 |succ r ih=>
  intro p ys acc J e hd hP;cases ys with
  |nil=>obtain this:=congrArg H6 hd;rw[Gm,Hh]at this;lia
  |cons z ys=>
   obtain⟨h1,h2,_⟩:=drop_cons hd;have hx:l[l.length-(r+1)]?=JS (g p z):=by rw[show l.length-(r+1)=p by lia];exact hg p z h1
   obtain⟨zN,zt,hb,q⟩:=hs p z ys acc J h1 h2 hP;rcases q with⟨c,hc,k,q⟩|⟨zb,y,hc,k,hn,sh,q⟩;.obtain⟨oR,zy,z,w⟩:=ih (p+1) ys _ _ (by lia) h2 q;exact⟨oR,zy,.skip (hl _ _ _ _ hP) hx hb hc k z,w⟩
   .obtain⟨oR,zy,z,w⟩:=ih (p+1) ys _ _ (by lia) h2 q;exact⟨oR,zy,.take (hl _ _ _ _ hP) hx hb hc k hn sh z,w⟩
section
variable{b:Bc}{d:Nat}{q:Bool}{J zt:St}{D:Dt}{i:Nat}
theorem n9{l:Nat}{xs:List Nat}(R:RI J D)(hl:J[l]?=JS (.list (rf D.ad xs)))(hx:∀x∈xs,D.on x=JQ)(hi:D.on i=JQ):Call ⟨b,JT,JT,d+3⟩ (.fn 368) [.ref l,.ref (D.ad i)] J (.ok (.bool (xs.contains i)) J):=by rw[<-R.aW hi hx];refine Lv hl (R.kQ hi) λm hm=>?_;obtain⟨x,h1,rfl⟩:=IG.mp hm;exact⟨_,R.kQ (hx x h1),(R.beq (hx x h1) hi).1.trans (R.beq (hx x h1) hi).2.symm⟩
theorem cQ{ad:Nat->Nat}{zs:List Nat}:∀(p:Nat)(z:Nat),zs[p]?=JS z->(rf ad zs)[p]?=JS (.ref (ad z)):=λzz zz h=>iF h
noncomputable def lJ(l:List Nat):List V:=l.map λ(n:Nat)=>V.int (n:Int)
theorem sum_ints:∀l:List Nat,mq (lJ l)=JS (l.sum:Int)|[]=>rfl|n::l=>by show(mq (lJ l)).map ((n:Int)+.)=_;rewrite[sum_ints l];rewrite[List.sum_cons];rw[Int.natCast_add];rfl
theorem Mg(R:RI J D)(hi:D.on i=JQ)(hm:i<18):∃zy,Call ⟨b,JT,JT,d+3⟩ (.fn 380) [.ref (D.ad i)] J (.ok (.int (xT D.T i)) zy)/\Gr J zy:=by
 obtain⟨kp,a1,a3,h1,_⟩:=R.oo i hi hm;obtain h2:=R.ll i JQ hi hm;obtain two:=R.s.wf.two i JQ;obtain⟨acc,zy,k,k1,k2,k3⟩:=CL.go (F:=⟨b,JT,JT,d+2⟩) (L:=[(2,.ref (D.ad i))]) (xs:=[5]) (t:=.list (D.la JQ i)) (elt:=(.call (.zu 31) (.cons (.call (.zu 82) (.cons (.loc 5) .nil)) .nil))) (yd:=.nil) (n0:=J.length) (l:=rf D.ad ((D.T i).li JQ)) (zs:=(D.T i).li JQ) uv cQ (P:=λp ys acc zv=>C3 (Gr J zv) (∃us,C3 (acc=lJ us) (us.length=p) (us++ys.map (λx=>(own D.T 1 x).length)=((D.T i).li JQ).map (λx=>(own D.T 1 x).length))) (zv[J.length]?=JS (.list acc))) (λp ys acc zv h=>h.1.get h2) (by
  rintro p x ys acc zv hp hd⟨g,⟨us,rfl,hu,hv⟩,hc⟩;obtain hx:=J5 hp;obtain⟨m1,m2⟩:=R.mem hx;obtain⟨l,zk,c1,c2,c3,c4⟩:=cX (b:=b) d 1 x zv (by decide) m1 m2 (R.s.wf.Z7 (R.s.wf.pf hx)) (R.gr g);obtain yN:=(J9.mp hp).1;obtain wb:=c2.get hc;refine⟨_,zv,rfl,.inr ⟨zk,_,.inl ⟨rfl,rfl⟩,y6 (yp rfl) (zp (y6 (fv:=.fn 375) (yp rfl) (zp (zx rfl) zf) c1) zf) (pj c4 (sG (J4 (R.s.wf.uI 1 x (by decide)) (by decide)))),wb,?_,(g.tr c2).set (JK _),⟨us++[(own D.T 1 x).length],?_,by rewrite[JO];rw[hu];rfl,by rw[J'];exact hv⟩,?_⟩⟩;.exact xN (by rewrite[lJ];rw[JN];lia)
  .rw[uv];unfold lJ;rw[I0];rfl
  .rw[uv];exact get_set wb) ((D.T i).li JQ).length 0 _ [] (J++[.list []]) rfl rfl ⟨Gr.push _,⟨[],rfl,rfl,rfl⟩,zA⟩;obtain⟨us,rfl,_,hu⟩:=k2;rw[HJ,IV]at hu;refine⟨zy,zI rfl rfl (zT (zL (y6 (yp rfl) (zp (sj (t:=.list (D.la JQ i)) rfl rfl rfl (zM (zx rfl) h1 rfl rfl) h2 (by rw[uv];exact k)) zf) (R8 rfl k3 ?_)))),k1⟩;rewrite[sum_ints];rw[hu];rfl
end
section
variable{F:Fr}{L:Loc}{J zt:St}
theorem oH{a c:M}{t u:Bool}(h:E F L a J (.ok (.bool t) zt))(h':t=JQ->E F L c zt (.ok (.bool u) zt)):E F L (.and (.cons a (.cons c .nil))) J (.ok (.bool (t&&u)) zt):=by cases t with|false=>exact tR h|true=>exact w5 h (uh (h' rfl))
theorem jX{a c:M}{t u:Bool}(h:E F L a J (.ok (.bool t) zt))(h':t=JT->E F L c zt (.ok (.bool u) zt)):E F L (.or (.cons a (.cons c .nil))) J (.ok (.bool (t||u)) zt):=by cases t with|true=>exact sd h|false=>exact uP h (uO (h' rfl))
theorem yC{g:Nat}{x:M}{fv v:V}{out:R V}(hg:prog.glob g=JS fv)(h:E F L x J (.ok v zt))(c:Call F fv [v] zt out)(hk:sN fv=JQ:=by rfl):E F L (.call (.zu g) (.cons x .nil)) J out:=y6 (yp hg) (zp h zf) c hk
theorem yY{g:Nat}{x y:M}{fv v u:V}{zb:St}{out:R V}(hg:prog.glob g=JS fv)(h:E F L x J (.ok v zt))(h':E F L y zt (.ok u zb))(c:Call F fv [v,u] zb out)(hk:sN fv=JQ:=by rfl):E F L (.call (.zu g) (.cons x (.cons y .nil))) J out:=y6 (yp hg) (zp h (zp h' zf)) c hk
theorem xq{g:Nat}{x y z:M}{fv v u s:V}{zb yO:St}{out:R V}(hg:prog.glob g=JS fv)(h:E F L x J (.ok v zt))(h':E F L y zt (.ok u zb))(QS:E F L z zb (.ok s yO))(c:Call F fv [v,u,s] yO out)(hk:sN fv=JQ:=by rfl):E F L (.call (.zu g) (.cons x (.cons y (.cons z .nil)))) J out:=y6 (yp hg) (zp h (zp h' (zp QS zf))) c hk
end
theorem lh(bh:List Nat)(cnt:Nat):∀(ys acc:List Nat)(p:Nat),(here bh cnt p acc ys).length<=acc.length+ys.length
|[],acc,p=>JK _
|x::ys,acc,p=>by
 refine J4 (lh bh cnt ys _ (p+1)) ?_;rw[ID];split;.rewrite[JO];rw[Il];lia
 .lia
theorem jK{bh:List Nat}{cnt:Nat}{x:Nat}:∀{ys acc:List Nat}{p:Nat},x∈here bh cnt p acc ys->x∈acc\/x∈ys
|[],acc,p,h=>.inl h
|y::ys,acc,p,h=>by
 rcases jK (show x∈here bh cnt (p+1) (if !acc.contains y&&(decide ((p:Int)<cnt)||!bh.contains y)then acc++[y]else acc) ys from h)with h|h
 .split at h
  .rcases I8.mp h with h|h;.exact .inl h
   .exact .inr (by rw[JP.mp h];exact .head _)
  .exact .inl h
 .exact .inr (.tail _ h)
section
variable{b:Bc}{d:Nat}{J zt:St}{D:Dt}{i:Nat}
theorem Pp{bl f e cnt:Nat}{bh zs:List Nat}(R:RI zt D)(hb:zt[bl]?=JS (.list (rf D.ad bh)))(ho:∀x∈bh,D.on x=JQ)(hf:zt.length<=f)(hz:∀x∈zs,D.on x=JQ)(hl:zs.length<=21){L:Loc}{zv:St}(g:Gr zt zv)(h1:zv[f]?=JS (.list []))(h2:zv[e]?=JS (.list (rf D.ad zs)))(wU:f≠e)(l1:lk 4 L=JS (.ref f))(l2:lk 22 L=JS (.ref bl))(l3:lk 87 L=JS (.int cnt))(l0:lk 52 L=none):X2 λL' zk=>C6 (FL ⟨b,JT,JT,d+3⟩ [53,5] (.enum e) ((rf D.ad zs).mapIdx λi v=>V.tup [.int i,v]) (.cons (.cond (.and (.cons (.not (.call (.zu 43) (.cons (.loc 4) (.cons (.loc 5) .nil)))) (.cons (.or (.cons (.cmp .lt (.loc 53) (.loc 87)) (.cons (.not (.call (.zu 43) (.cons (.loc 22) (.cons (.loc 5) .nil)))) .nil))) .nil))) (.cons (.expr (.zl (.loc 4) 30 (.cons (.loc 5) .nil))) .nil) .nil) .nil) ((rf D.ad zs).mapIdx λi v=>V.tup [.int i,v]).length L zv (.ok .next L' zk)) (Gr zt zk) (zk[f]?=JS (.list (rf D.ad (here bh cnt 0 [] zs)))) (lk 4 L'=JS (.ref f)) (lk 22 L'=JS (.ref bl)) (lk 52 L'=none):=by
 obtain⟨L',zk,k,k1,⟨acc,a1,a2,a3,a4⟩,k3,k4,k5,k6,k7⟩:=FL.all (F:=⟨b,JT,JT,d+3⟩) (xs:=[53,5]) (t:=.enum e) (b:=(.cons (.cond (.and (.cons (.not (.call (.zu 43) (.cons (.loc 4) (.cons (.loc 5) .nil)))) (.cons (.or (.cons (.cmp .lt (.loc 53) (.loc 87)) (.cons (.not (.call (.zu 43) (.cons (.loc 22) (.cons (.loc 5) .nil)))) .nil))) .nil))) (.cons (.expr (.zl (.loc 4) 30 (.cons (.loc 5) .nil))) .nil) .nil) .nil)) (l:=(rf D.ad zs).mapIdx λi v=>V.tup [.int i,v]) (zs:=zs) (g:=λp z=>.tup [.int p,.ref (D.ad z)]) (by rewrite[H7];rw[uv]) (λp z h=>by rewrite[Gi];rw[iF h];rfl) (P:=λp ys L zv=>C7 (Gr zt zv) (∃acc,C4 (zv[f]?=JS (.list (rf D.ad acc))) (acc.length<=p) (∀x∈acc,D.on x=JQ) (here bh cnt p acc ys=here bh cnt 0 [] zs)) (zv[e]?=JS (.list (rf D.ad zs))) (lk 4 L=JS (.ref f)) (lk 22 L=JS (.ref bl)) (lk 87 L=JS (.int cnt)) (lk 52 L=none)) (λp ys L zv h=>⟨_,h.3,rfl⟩) (by
  rintro p x ys L zv hp hd⟨g,⟨acc,a1,a2,a3,a4⟩,k3,k4,k5,k6,k7⟩;obtain hx:=hz x (J5 hp);obtain yN:=(J9.mp hp).1;have R':=R.gr g;obtain hc:=oH (F:=⟨b,JT,JT,d+3⟩) (L:=st 5 (.ref (D.ad x)) (st 53 (.int p) L)) (u:=decide ((p:Int)<cnt)||!bh.contains x) (vM (yY (g:=43) (fv:=.fn 368) rfl (zx (zg rfl (zg rfl k4))) (zx yz) (n9 R' a1 a3 hx))) λzz=>jX (u:=!bh.contains x) (zZ (zx (zg rfl yz)) (zx (zg rfl (zg rfl k6))) jy) λzz=>vM (yY (g:=43) (fv:=.fn 368) rfl (zx (zg rfl (zg rfl k5))) (zx yz) (n9 R' (g.get hb) ho hx));refine⟨_,st 5 (.ref (D.ad x)) (st 53 (.int p) L),zv.set f (.list (rf D.ad (if !acc.contains x&&(decide ((p:Int)<cnt)||!bh.contains x)then acc++[x]else acc))),rfl,zr (oq hc ?_) zj,g.set hf,⟨_,get_set a1,?_,?_,a4⟩,zK k3 wU,zg rfl (zg rfl k4),zg rfl (zg rfl k5),zg rfl (zg rfl k6),zg rfl (zg rfl k7)⟩
  .split;.exact zr (yJ (yo (zx (zg rfl (zg rfl k4))) (ug a1) (zp (zx yz) zf) (by exact pI rfl a1 (sG (J4 a2 (by lia))) (qV (k:=[x])).symm))) zj
   .obtain this:zv.set f (.list (rf D.ad acc))=zv:=set_same a1;rw[this];exact zj
  .split;.rw[JO];exact Ik a2
   .exact Hb a2
  .split
   .intro y hy;rcases I8.mp hy with hy|hy;.exact a3 y hy
    .rw[JP.mp hy];exact hx
   .exact a3) (L:=L) (J:=zv) ⟨g,⟨[],h1,JK _,λzz h=>(nomatch h),rfl⟩,h2,l1,l2,l3,l0⟩;exact⟨L',zk,k,k1,by rewrite[a1];rw[<-a4];rfl,k4,k5,k7⟩
theorem N8{bl f:Nat}{bh h:List Nat}{L:Loc}(R:RI J D)(hb:J[bl]?=JS (.list (rf D.ad bh)))(ho:∀x∈bh,D.on x=JQ)(hf:J[f]?=JS (.list (rf D.ad h)))(hz:∀x∈h,D.on x=JQ)(hl:bh.length<=1000)(l1:lk 4 L=JS (.ref f)):X2 λacc zy=>C4 (CL ⟨b,JT,JT,d+3⟩ L [5] (.list bl) (rf D.ad bh) (.loc 5) (.cons (.not (.call (.zu 43) (.cons (.loc 4) (.cons (.loc 5) .nil)))) .nil) J.length (rf D.ad bh).length [] (J++[.list []]) acc zy) (Gr J zy) (acc=rf D.ad (bh.filter λx=>!h.contains x)) (zy[J.length]?=JS (.list acc)):=by obtain⟨acc,zy,k,k1,⟨us,rfl,k2,k3⟩,k4⟩:=CL.go (F:=⟨b,JT,JT,d+3⟩) (L:=L) (xs:=[5]) (t:=.list bl) (elt:=(.loc 5)) (yd:=(.cons (.not (.call (.zu 43) (.cons (.loc 4) (.cons (.loc 5) .nil)))) .nil)) (n0:=J.length) (l:=rf D.ad bh) (zs:=bh) uv cQ (P:=λp ys acc zv=>C3 (Gr J zv) (∃us,C3 (acc=rf D.ad us) (us.length<=p) (us++ys.filter (λx=>!h.contains x)=bh.filter λx=>!h.contains x)) (zv[J.length]?=JS (.list acc))) (λp ys acc zv h=>h.1.get hb) (by rintro p x ys acc zv hp hd⟨g,⟨us,rfl,hu,hv⟩,hc⟩;obtain hx:=ho x (J5 hp);obtain yN:=(J9.mp hp).1;obtain he:=vM (F:=⟨b,JT,JT,d+3⟩) (L:=st 5 (.ref (D.ad x)) L) (yY (g:=43) (fv:=.fn 368) rfl (zx (zg rfl l1)) (zx yz) (n9 (R.gr g) (g.get hf) hz hx));cases hq:h.contains x with|true=>rw[hq]at he;exact⟨_,zv,rfl,.inl ⟨_,rfl,he,g,⟨us,rfl,Hb hu,by rw[Ib,hq]at hv;exact hv⟩,hc⟩⟩|false=>rw[hq]at he;refine⟨_,zv,rfl,.inr ⟨zv,_,.inr ⟨_,rfl,he⟩,zx yz,hc,sG (by lia),g.set (JK _),⟨us++[x],(qV (k:=[x])).symm,by rw[JO];exact Ik hu,by rw[Ib,hq]at hv;rw[J'];exact hv⟩,get_set hc⟩⟩) bh.length 0 _ [] (J++[.list []]) rfl rfl ⟨Gr.push _,⟨[],rfl,JK _,rfl⟩,zA⟩;rw[Eb,IV]at k3;exact⟨_,zy,by rw[uv];exact k,k1,by rw[k3],k4⟩
theorem Vu{bl:Nat}{bh:List Nat}(R:RI zt D)(hi:D.on i=JQ)(hm:i<18)(hb:zt[bl]?=JS (.list (rf D.ad bh)))(ho:∀x∈bh,D.on x=JQ)(hl:bh.length<=500):X3 λl L' zy=>C4 (XB ⟨b,JT,JT,d+3⟩ [(1,.ref D.w),(2,.ref (D.ad i)),(22,.ref bl)] (.cons (.yD [4,87] (.tup (.cons (.lst .nil) (.cons (.call (.zu 181) (.cons (.loc 2) .nil)) .nil)))) (.cons (.for [53,5] .enum (.call (.zu 82) (.cons (.loc 2) .nil)) (.cons (.cond (.and (.cons (.not (.call (.zu 43) (.cons (.loc 4) (.cons (.loc 5) .nil)))) (.cons (.or (.cons (.cmp .lt (.loc 53) (.loc 87)) (.cons (.not (.call (.zu 43) (.cons (.loc 22) (.cons (.loc 5) .nil)))) .nil))) .nil))) (.cons (.expr (.zl (.loc 4) 30 (.cons (.loc 5) .nil))) .nil) .nil) .nil)) (.cons (.ret (.bin .add (.loc 4) (.comp (.loc 5) [5] .plain (.loc 22) (.cons (.not (.call (.zu 43) (.cons (.loc 4) (.cons (.loc 5) .nil)))) .nil)))) .nil))) zt (.ok (.ret (.ref l)) L' zy)) (Gr zt zy) (zy[l]?=JS (.list (rf D.ad (step D.T i bh)))) (zt.length<=l):=by
 obtain⟨zb,c1,g1⟩:=Mg (b:=b) (d:=d) (R.gr (Gr.push (.list []))) hi hm;obtain⟨e,yO,c2,g2,le,he⟩:=cX (b:=b) d 2 i zb (JK _) hi hm (R.s.wf.Z6 i) (R.gr ((Gr.push _).tr g1));obtain hf:=(g1.tr g2).get (zA (J:=zt) (o:=.list []));obtain C:=R.kj 2 hi hm;obtain l2:=R.s.wf.uI 2 i (JK _);obtain⟨L',rA,c3,g3,h4,l1,OA,l0⟩:=Pp (b:=b) (d:=d) (cnt:=xT D.T i) R hb ho (JK _) (λx hx=>(C x hx).1) l2 (L:=[(1,.ref D.w),(2,.ref (D.ad i)),(22,.ref bl),(4,.ref zt.length),(87,.int (xT D.T i))]) ((Gr.push _).tr (g1.tr g2)) hf he (IP (IJ (IJ (by rw[JO];exact Hq _) g1.1) le)) rfl rfl rfl rfl;obtain hh:=lh bh (xT D.T i) (own D.T 2 i) [] 0;obtain hh:(here bh (xT D.T i) 0 [] (own D.T 2 i)).length<=21:=by rw[Hh]at hh;lia
 obtain⟨_,mZ,c4,g4,rfl,h5⟩:=N8 (b:=b) (d:=d) (R.gr g3) (g3.get hb) ho h4 (λx hx=>(jK hx).elim (λh=>(nomatch h)) λh=>(C x h).1) (J4 hl (by decide)) l1;have hs:((here bh (xT D.T i) 0 [] (own D.T 2 i))++bh.filter λx=>!(here bh (xT D.T i) 0 [] (own D.T 2 i)).contains x).length<=1000:=by obtain this:=HP (λx=>!(here bh (xT D.T i) 0 [] (own D.T 2 i)).contains x) bh;rw[JO];lia
 refine⟨mZ.length,L',mZ++[.list (rf D.ad (step D.T i bh))],?_,g3.tr (g4.tr (Gr.push _)),zA,(g3.tr g4).1⟩;refine zr (uC rfl (x_ (zp (y5 zf rfl) (zp (yC (fv:=.fn 380) rfl (zx rfl) c1) zf)) rfl) rfl) ?_;refine zr (xe (t:=.enum e) rfl (yC (fv:=.fn 375) rfl (zx rfl) c2) ⟨_,he,rfl⟩ rfl c3) ?_;refine zT (zL (yh (zx l1) (sj (t:=.list bl) rfl rfl l0 (zx OA) (g3.get hb) c4) ?_));unfold step qI;rw[qV];exact mM (g4.get h4) h5 (by rw[<-qV];exact sG hs)
end
theorem S9{F:Fr}{J:St}{i j:Int}:xg F .ne (.int i) (.int j) J (!(i==j)):=gR rfl rfl (Yh i j)
theorem rM{i p:Nat}(h:par i=JS p):p<18:=by
 obtain this:∀i<18,(match par i with|JS p=>Io p 18|none=>JQ)=JQ:=by decide+kernel
 obtain this:=this i (WC h);rw[h]at this;exact JA this
section
variable{J:St}{D:Dt}
theorem tF{j:Nat}(h:D.on j=JQ):D.opt (JS j)=.ref (D.ad j):=by unfold Dt.opt;exact if_pos h
theorem WG{j:Nat}(h:D.on j=JT):D.opt (JS j)=.none:=by unfold Dt.opt;exact if_neg (by rw[h];exact IZ)
theorem VO(w:WF D.T)(i:Nat)(bh:List Nat):(step D.T i bh).length<=21+bh.length:=by obtain h1:=lh bh (xT D.T i) (own D.T 2 i) [] 0;obtain h2:=w.uI 2 i (JK _);obtain h3:=HP (λx=>!(here bh (xT D.T i) 0 [] (own D.T 2 i)).contains x) bh;rw[Hh]at h1;unfold step qI;rw[JO];lia
theorem hZ{T:Tb}{i x:Nat}{bh:List Nat}(h:x∈step T i bh):x∈own T 2 i\/x∈bh:=by
 rcases I8.mp h with h|h;.exact(jK h).elim (λh=>(nomatch h)) .inl
 .exact .inr (Hd.mp h).1
theorem RI.Wx(R:RI J D):∀(n:Nat){i:Nat},rank i=n->D.on i=JQ->i<18->(ln D.T i).length<=21*(n+1)/\∀x∈ln D.T i,D.on x=JQ/\x<18:=by
 intro n;induction n with
 |zero=>
  intro i hr hi hm;have hp:par i=none:=by cases q:par i with|none=>rfl|some p=>obtain this:=vF q;lia
  rw[lF hp];exact⟨VO R.s.wf i [],λx hx=>(hZ hx).elim (R.kj 2 hi hm x) λh=>nomatch h⟩
 |succ n ih=>intro i hr hi hm;cases hp:par i with|none=>obtain this:=kX hp;lia|some p=>obtain yb:=R.s.pm i p hi hp;obtain⟨h1,h2⟩:=ih (i:=p) (by obtain this:=vF hp;lia) yb (rM hp);rw[nN hp];exact⟨J4 (VO R.s.wf i _) (by lia),λx hx=>(hZ hx).elim (R.kj 2 hi hm x) (h2 x)⟩
theorem MP{b:Bc}{d i:Nat}(R:RI J D)(hi:D.on i=JQ)(hm:i<18)(IH:∀p,par i=JS p->X2 λl zy=>C3 (Call ⟨b,JT,JT,d+3⟩ (.fn 392) [.ref D.w,.ref (D.ad p)] J (.ok (.ref l) zy)) (Ask D J zy) (zy[l]?=JS (.list (rf D.ad (ln D.T p))))):X2 λl zy=>C4 (Call ⟨b,JT,JT,d+4⟩ (.fn 385) [.ref D.w,.ref (D.ad i)] J (.ok (.ref l) zy)) (Ask D J zy) (zy[l]?=JS (.list (rf D.ad (ln D.T i)))) (J.length<=l):=by
 obtain⟨kp,a1,a3,h1,_⟩:=R.oo i hi hm;cases hp:par i with
 |none=>obtain⟨l,L',zy,k,g,hl,hle⟩:=Vu (b:=b) (d:=d) (R.gr (Gr.push (.list []))) hi hm (bh:=[]) zA (λzz h=>nomatch h) (I4 _);rw[<-lF hp]at hl;exact⟨l,zy,zI rfl rfl (zr (yu (wq (zZ (zM (zx rfl) h1 rfl rfl) zQ (yX (by rw[hp];rfl))) (y5 zf rfl))) k),.of R ((Gr.push _).tr g),hl,J4 (Gr.push _).1 hle⟩
 |some p=>
  obtain⟨bl,zt,c,a,hb⟩:=IH p hp;obtain yb:=R.s.pm i p hi hp;obtain⟨q1,q2⟩:=R.Wx _ rfl yb (rM hp);obtain hr:rank p<=6:=by
   obtain this:∀i<18,rank i<=7:=by decide+kernel
   obtain this:=this i hm;obtain this:=vF hp;lia
  obtain⟨l,L',zy,k,g,hl,hle⟩:=Vu (b:=b) (d:=d) a.r hi hm hb (λx hx=>(q2 x hx).1) (by lia);rw[<-nN hp]at hl;obtain e1:lk 11 (D.w_ i a1 a3 kp)=JS (.ref (D.ad p)):=(show _=JS (D.opt (par i))from rfl).trans (by rewrite[hp];rw[tF yb]);exact⟨l,zy,zI rfl rfl (zr (yu (wt (zZ (zM (zx rfl) h1 rfl e1) zQ (yX rfl)) (yY (g:=81) rfl (zx rfl) (zM (zx rfl) h1 rfl e1) c))) k),a.tr (.of a.r g),hl,J4 a.k.1 hle⟩
theorem Vv{b:Bc}{d i:Nat}(R:RI J D)(hi:D.on i=JQ)(hm:i<18)(IH:∀p,par i=JS p->X2 λl zy=>C3 (Call ⟨b,JT,JT,d+3⟩ (.fn 392) [.ref D.w,.ref (D.ad p)] J (.ok (.ref l) zy)) (Ask D J zy) (zy[l]?=JS (.list (rf D.ad (ln D.T p))))):X2 λl zy=>C3 (Call ⟨b,JT,JT,d+5⟩ (.fn 392) [.ref D.w,.ref (D.ad i)] J (.ok (.ref l) zy)) (Ask D J zy) (zy[l]?=JS (.list (rf D.ad (ln D.T i)))):=by
 obtain⟨kp,a1,a3,h1,hk⟩:=R.oo i hi hm;obtain⟨num,main,hw,_⟩:=R.wo;have tail:E ⟨b,JT,JT,d+4⟩ [(1,.ref D.w),(2,.ref (D.ad i))] (.or (.cons (.cmp .is (.attr (.loc 2) 61) .none) (.cons (.cmp .ne (.sub (.attr (.loc 2) 61) (.int 0)) (.attr (.loc 1) 99)) .nil))) J (.ok (.bool JQ) J)->X2 λl zy=>C3 (Call ⟨b,JT,JT,d+5⟩ (.fn 392) [.ref D.w,.ref (D.ad i)] J (.ok (.ref l) zy)) (Ask D J zy) (zy[l]?=JS (.list (rf D.ad (ln D.T i)))):=λhc=>by obtain⟨l,zt,c,a,hl,hle⟩:=MP R hi hm IH;obtain⟨rT,b1,b3,xD,_⟩:=a.r.oo i hi hm;obtain⟨R',k'⟩:=a.r.kept hi hm xD hl (J4 (Fs (y0 hw)) hle);refine⟨l,_,zI rfl rfl (zr (ye hc (zr (rE rfl (x_ (zp (zM (zx rfl) hw rfl rfl) (zp (yY (g:=173) rfl (zx rfl) (zx rfl) c) zf)) rfl) (zx rfl) xD rfl rfl) zj)) (zT (zL (yL (zM (zx rfl) (get_set xD) rfl rfl) yw (vo (j:=1) rfl (by decide)))))),a.tr ⟨R',k'⟩,k'.get hl⟩
 rcases hk with rfl|⟨v,l,rfl,hv,hl⟩;.exact tail (sd (zZ (zM (zx rfl) h1 rfl rfl) zQ (yX rfl)))
 .obtain h0:=zZ (F:=⟨b,JT,JT,d+4⟩) (L:=[(1,.ref D.w),(2,.ref (D.ad i))]) (yL (zM (zx (x:=2) rfl) h1 (x:=61) rfl rfl) yw (vo (j:=0) rfl (by decide))) (zM (zx (x:=1) rfl) hw (x:=99) rfl rfl) S9;obtain hn:=zZ (F:=⟨b,JT,JT,d+4⟩) (L:=[(1,.ref D.w),(2,.ref (D.ad i))]) (zM (zx (x:=2) rfl) h1 (x:=61) rfl rfl) zQ (yX (t:=JT) rfl);by_cases q:v=D.zE;.rw[q,beq_self_eq_true]at h0;exact⟨l,J,zI rfl rfl (zr (zO (uP hn (uO h0)) zj) (zT (zL (yL (zM (zx rfl) h1 rfl rfl) yw (vo (j:=1) rfl (by decide)))))),⟨R,.re⟩,(hl q).2⟩
  .rw[beq_false_of_ne q]at h0;exact tail (uP hn (uO h0))
theorem Vw{b:Bc}(d:Nat):∀(n i:Nat)(J:St),rank i=n->D.on i=JQ->i<18->RI J D->X2 λl zy=>C3 (Call ⟨b,JT,JT,d+(2*n+5)⟩ (.fn 392) [.ref D.w,.ref (D.ad i)] J (.ok (.ref l) zy)) (Ask D J zy) (zy[l]?=JS (.list (rf D.ad (ln D.T i))))|0,i,J,hr,hi,hm,R=>Vv R hi hm λp hp=>by have:=vF hp;lia|n+1,i,J,hr,hi,hm,R=>Vv (d:=d+(2*n+2)) R hi hm λp hp=>Vw d n p J (by have:=vF hp;lia) (R.s.pm i p hi hp) (rM hp) R
theorem cb{b:Bc}{d i:Nat}(R:RI J D)(hi:D.on i=JQ)(hm:i<18):X2 λl zy=>C3 (Call ⟨b,JT,JT,d+20⟩ (.fn 392) [.ref D.w,.ref (D.ad i)] J (.ok (.ref l) zy)) (Ask D J zy) (zy[l]?=JS (.list (rf D.ad (ln D.T i)))):=by
 obtain this:∀i<18,rank i<=7:=by decide+kernel
 obtain this:=this i hm;obtain this:=Vw (b:=b) (d+(15-2*rank i)) (rank i) i J rfl hi hm R;rw[show d+(15-2*rank i)+(2*rank i+5)=d+20 by lia]at this;exact this
theorem RI.tK(R:RI J D){i:Nat}(hi:D.on i=JQ)(hm:i<18):(ln D.T i).length<=200/\∀x∈ln D.T i,D.on x=JQ/\x<18:=by
 obtain this:∀i<18,rank i<=7:=by decide+kernel
 obtain this:=this i hm;obtain⟨h1,h2⟩:=R.Wx _ rfl hi hm;exact⟨by lia,h2⟩
end
noncomputable def vj:Option z7->V|JS h=>.ref h.e|none=>.none
noncomputable def live(h:z7):Option z7:=match h.b with|JS _=>JS h|none=>none
noncomputable def zJ(T:Tb)(k:List Nat):List Nat->Option z7|[]=>none|i::r=>match y_ k (T i).ms with|JS h=>live h|none=>zJ T k r
noncomputable def wH(T:Tb)(k:List Nat)(o:Nat):List Nat->Option z7|[]=>none|i::r=>match i==o with|JQ=>zJ T k r|JT=>wH T k o r
theorem v8{F:Fr}{J:St}{v:V}(e:isNone v=JS JQ):xg F .yS v .none J JT:=ri e
theorem tS{F:Fr}{J:St}{v:V}(e:isNone v=JS JT):xg F .yS v .none J JQ:=ri e
section
variable{b:Bc}{d:Nat}{q:Bool}{J zt:St}{D:Dt}{i:Nat}{k:List Nat}
theorem MZ(R:RI J D)(hi:D.on i=JQ)(hm:i<18){s:List Nat}(hn:yG i=.str s):∃zy,Call ⟨b,JT,JT,d+1⟩ (.fn 420) [.ref D.w,.ref (D.ad i),.str k] J (.ok .none zy)/\Gr J zy:=by obtain⟨kp,a1,a3,h1,_⟩:=R.oo i hi hm;obtain⟨num,main,hw,_⟩:=R.wo;obtain g1:Gr J (J++[O.dict []]):=Gr.push _;obtain e1:lk 34 (D.w_ i a1 a3 kp)=JS (.str s):=(show _=JS (yG i)from rfl).trans (by rw[hn]);refine⟨(J++[O.dict []])++[O.dict []],?_,g1.tr (Gr.push _)⟩;apply zI rfl rfl;refine zr (yu (yo (yo (zM (zx rfl) hw rfl rfl) (tQ R.n0) (zp (zM (zx rfl) h1 rfl e1) (zp jY zf)) (lC (.inl (g1.get R.n0)))) (tQ zA) (zp (zx rfl) zf) (qe (.inl zA)))) ?_;refine zr (zO (zZ (zx rfl) zQ (v8 rfl)) zj) ?_;refine zr (yu (yo (yo (zM (zx rfl) (g1.get hw) rfl rfl) (tQ (g1.get R.n1)) (zp (zM (zx rfl) (g1.get h1) rfl e1) (zp jY zf)) (lC (.inl ((g1.tr (Gr.push _)).get R.n1)))) (tQ zA) (zp (zx rfl) zf) (qe (.inl zA)))) ?_;exact zT (ye (zZ (zx rfl) zQ (yX rfl)) (zT (zL zQ)))
theorem iM(R:RI J D)(hi:D.on i=JQ)(hm:i<18):∃zy,Call ⟨b,JT,JT,d+2⟩ (.fn 432) [.ref D.w,.ref (D.ad i),.str k] J (.ok (vj (y_ k (D.T i).ms)) zy)/\Gr J zy:=by
 obtain⟨kp,a1,a3,h1,_⟩:=R.oo i hi hm;obtain hd:=R.mm i hi hm;have h0:E ⟨b,JT,JT,d+1⟩ [(1,.ref D.w),(2,.ref (D.ad i)),(0,.str k)] (.zl (.attr (.loc 2) 19) 49 (.cons (.loc 0) .nil)) J (.ok ((zG k (yF tn (D.T i).ms)).getD .none) J):=yo (zM (zx rfl) h1 rfl rfl) (tQ hd) (zp (zx rfl) zf) (qe (.inl hd));rw[qv]at h0;cases hh:y_ k (D.T i).ms with
 |some h=>rw[hh]at h0;obtain he:=(R.ee i hi hm _ (lX hh)).1;refine⟨J,zI rfl rfl (zr (yu h0) (zr (zO (tR (zZ (zx rfl) zQ (yX rfl))) zj) (zT (zL (wt (uP (zZ (zx rfl) zQ (yX rfl)) (uO (t:=JT) (zZ (zM (zx rfl) he rfl rfl) zV ?_))) (zx rfl)))))),.rfl⟩;cases h.b<;>exact u6 rfl rfl
 |none=>
  rw[hh]at h0;have fin:∀{L:Loc}{zv:St},lk 4 L=JS .none->XB ⟨b,JT,JT,d+1⟩ L (.cons (.ret (.ite (.or (.cons (.cmp .is (.loc 4) .none) (.cons (.cmp .eq (.attr (.loc 4) 35) (.str [103,111,110,101])) .nil))) .none (.loc 4))) .nil) zv (.ok (.ret .none) L zv):=λhl=>zT (zL (wq (sd (zZ (zx hl) zQ (yX rfl))) zQ));have hc:=zZ (F:=⟨b,JT,JT,d+1⟩) (L:=[(1,.ref D.w),(2,.ref (D.ad i)),(0,.str k),(4,.none)]) (zM (zx (x:=2) rfl) h1 (x:=34) rfl rfl) zQ (ri (t:=(yG i).ctorIdx==0) (by unfold yG;split<;>rfl));by_cases hn:yG i=.none;.rw[hn]at hc;exact⟨J,zI rfl rfl (zr (yu h0) (zr (zO (w5 (zZ (zx rfl) zQ (yX rfl)) (uh hc)) zj) (fin rfl))),.rfl⟩
  .obtain⟨s,hs⟩:∃s,yG i=.str s:=by
    revert hn;unfold yG;split;.exactλzz=>⟨_,rfl⟩
    .exactλh=>absurd rfl h
   rw[hs]at hc;obtain⟨zy,c,g⟩:=MZ (b:=b) (d:=d) (k:=k) R hi hm hs;exact⟨zy,zI rfl rfl (zr (yu h0) (zr (ye (w5 (zZ (zx rfl) zQ (yX rfl)) (uh hc)) (zr (yu (xq (g:=129) rfl (zx rfl) (zx rfl) (zx rfl) c)) (zr (zO (zZ (zx rfl) zQ (v8 rfl)) zj) zj))) (fin rfl))),g⟩
theorem W2{l:Nat}{ln:List Nat}(R:RI J D)(hl:J[l]?=JS (.list (rf D.ad ln)))(ho:∀x∈ln,D.on x=JQ/\x<18):∃zy,Call ⟨b,JT,JT,d+3⟩ (.fn 439) [.ref D.w,.ref l,.str k] J (.ok (vj (zJ D.T k ln)) zy)/\Gr J zy:=by
 obtain⟨L',zy,z⟩:=FL.go (F:=⟨b,JT,JT,d+2⟩) (xs:=[2]) (t:=.list l) (b:=(.cons (.asg 4 (.call (.zu 67) (.cons (.loc 1) (.cons (.loc 2) (.cons (.loc 0) .nil))))) (.cons (.cond (.cmp .yS (.loc 4) .none) (.cons (.ret (.ite (.cmp .eq (.attr (.loc 4) 35) (.str [110,111,110,101])) .none (.loc 4))) .nil) .nil) .nil))) (l:=rf D.ad ln) (zs:=ln) uv cQ (P:=λp ys L zv=>C4 (Gr J zv) (lk 1 L=JS (.ref D.w)) (lk 0 L=JS (.str k)) (zJ D.T k ys=zJ D.T k ln)) (Q:=λv zv=>Gr J zv/\v=vj (zJ D.T k ln)) (λp ys L zv h=>h.1.get hl) (by rintro p x ys L zv hp hd⟨g,l1,l2,hf⟩;obtain⟨m1,m2⟩:=ho x (J5 hp);obtain⟨zk,c,g'⟩:=iM (b:=b) (d:=d) (k:=k) (R.gr g) m1 m2;obtain h0:=xq (F:=⟨b,JT,JT,d+2⟩) (L:=st 2 (.ref (D.ad x)) L) (g:=67) rfl (zx (zg rfl l1)) (zx yz) (zx (zg rfl l2)) c;obtain hf:(match y_ k (D.T x).ms with|JS h=>live h|none=>zJ D.T k ys)=zJ D.T k ln:=hf;cases hh:y_ k (D.T x).ms with|none=>rw[hh]at h0 hf;exact⟨_,_,zk,rfl,.inl ⟨zr (yu h0) (zr (zO (zZ (zx yz) zQ (v8 rfl)) zj) zj),g.tr g',zg rfl (zg rfl l1),zg rfl (zg rfl l2),hf⟩⟩|some h=>rw[hh]at h0 hf;obtain he:=g'.get (((R.gr g).ee x m1 m2 _ (lX hh)).1);refine⟨_,_,zk,rfl,.inr ⟨_,zr (yu h0) (zT (ye (zZ (zx yz) zQ (tS rfl)) (zT (zL (?_:E _ _ _ _ (.ok (vj (live h)) zk)))))),g.tr g',by rw[<-hf]⟩⟩;have hs:=zM (F:=⟨b,JT,JT,d+2⟩) (zx (yz (x:=4) (v:=.ref h.e) (L:=st 2 (.ref (D.ad x)) L))) he (x:=35) rfl rfl;unfold live;cases hb:h.b with|none=>rw[hb]at hs;exact wq (zZ hs zV (u6 rfl rfl)) zQ|some t=>rw[hb]at hs;exact wt (zZ hs zV (u6 rfl rfl)) (zx yz)) (rf D.ad ln).length 0 ln [(1,.ref D.w),(33,.ref l),(0,.str k)] J uv rfl ⟨.rfl,rfl,rfl,rfl⟩;rcases z with⟨c,g,_,_,hf⟩|⟨v,c,g,rfl⟩;.exact⟨zy,zI rfl rfl (zr (xe (t:=.list l) rfl (zx rfl) hl rfl c) (zT (zL (by rw[<-hf];exact zQ)))),g⟩
 .exact⟨zy,zI rfl rfl (zT (xe (t:=.list l) rfl (zx rfl) hl rfl c)),g⟩
theorem iK(R:RI J D)(hi:D.on i=JQ)(hm:i<18):∃zy,Call ⟨b,JT,JT,d+21⟩ (.fn 446) [.ref D.w,.ref (D.ad i),.str k] J (.ok (vj (zJ D.T k (ln D.T i))) zy)/\Ask D J zy:=by obtain⟨l,zt,c,a,hl⟩:=cb (b:=b) (d:=d) R hi hm;obtain⟨zb,c',g⟩:=W2 (b:=b) (d:=d+17) (k:=k) a.r hl (a.r.tK hi hm).2;exact⟨zb,zI rfl rfl (zT (zL (xq (g:=117) rfl (zx rfl) (yY (g:=81) rfl (zx rfl) (zx rfl) c) (zx rfl) c'))),a.tr (.of a.r g)⟩
end
theorem VX{F:Fr}{J:St}{n:Nat}{i:Int}{xs ys:List V}{t:EU}(hi:0<=i)(hn:J[n]?=JS (.list xs))(hs:short xs=JQ)(e:xs.drop i.toNat=ys):uA F (.ref n) (.int i t) .none .none J (.ref J.length) (J++[.list ys]):=e▸Ld hi hn hs
theorem M'{ad:Nat->Nat}{l:List Nat}{n:Nat}:(rf ad l).drop n=rf ad (l.drop n):=by unfold rf refs;rewrite[FA];rw[FA]
noncomputable def uW(on:Nat->Bool):Nat->Nat->Option Nat|0,zo=>none|k+1,i=>match(yr i).filter on with|JS j=>JS j|none=>(par i).bind (uW on k)
noncomputable def y'(on:Nat->Bool)(x:Nat):Nat:=match(yr x).filter on with|JS j=>j|none=>if Io x 18 then(match yf x with|JQ=>((par x).bind (uW on 7)).getD 4|JT=>3)else x-15
section
variable{b:Bc}{d:Nat}{q:Bool}{J zt:St}{D:Dt}{i:Nat}{k:List Nat}
theorem Ma{o:Nat}(R:RI J D)(hi:D.on i=JQ)(hm:i<18)(ho:D.on o=JQ):∃zy,Call ⟨b,JT,JT,d+21⟩ (.fn 453) [.ref D.w,.ref (D.ad i),.ref (D.ad o),.str k] J (.ok (vj (wH D.T k o (ln D.T i))) zy)/\Ask D J zy:=by
 obtain⟨l,zt,c,a,hl⟩:=cb (b:=b) (d:=d) R hi hm;obtain⟨hlen,yb⟩:=a.r.tK hi hm;obtain⟨L',zy,z⟩:=FL.go (F:=⟨b,JT,JT,d+20⟩) (xs:=[53,5]) (t:=.enum l) (b:=(.cons (.cond (.call (.zu 85) (.cons (.loc 5) (.cons (.loc 18) .nil))) (.cons (.ret (.call (.zu 117) (.cons (.loc 1) (.cons (.qR (.loc 33) (.bin .add (.loc 53) (.int 1))) (.cons (.loc 0) .nil))))) .nil) .nil) .nil)) (l:=(rf D.ad (ln D.T i)).mapIdx λi v=>V.tup [.int i,v]) (zs:=ln D.T i) (g:=λp z=>.tup [.int p,.ref (D.ad z)]) (by rewrite[H7];rw[uv]) (λp z h=>by rewrite[Gi];rw[iF h];rfl) (P:=λp ys L zv=>C6 (zv=zt) (lk 1 L=JS (.ref D.w)) (lk 0 L=JS (.str k)) (lk 18 L=JS (.ref (D.ad o))) (lk 33 L=JS (.ref l)) (wH D.T k o ys=wH D.T k o (ln D.T i))) (Q:=λv zv=>Gr zt zv/\v=vj (wH D.T k o (ln D.T i))) (λp ys L zv h=>⟨_,by rw[h.1];exact hl,rfl⟩) (by rintro p x ys L zv hp hd⟨rfl,l1,l2,l3,l4,hf⟩;obtain⟨m1,m2⟩:=yb x (J5 hp);obtain hs:=yY (F:=⟨b,JT,JT,d+20⟩) (L:=st 5 (.ref (D.ad x)) (st 53 (.int p) L)) (g:=85) (fv:=.fn 274) rfl (zx yz) (zx (zg rfl (zg rfl l3))) (Vi (a.r.kQ m1) (a.r.kQ ho));rw[(a.r.beq m1 ho).1]at hs;obtain hf:(match x==o with|JQ=>zJ D.T k ys|JT=>wH D.T k o ys)=_:=hf;cases q:x==o with|false=>rw[q]at hs hf;exact⟨_,_,_,rfl,.inl ⟨zr (zO hs zj) zj,rfl,zg rfl (zg rfl l1),zg rfl (zg rfl l2),zg rfl (zg rfl l3),zg rfl (zg rfl l4),hf⟩⟩|true=>rw[q]at hs hf;obtain g:=Gr.push (J:=zv) (.list (rf D.ad ys));obtain⟨zk,c',g'⟩:=W2 (b:=b) (d:=d+17) (k:=k) (a.r.gr g) zA (λy hy=>yb y (List.mem_of_mem_drop (hd▸hy)));refine⟨_,_,zk,rfl,.inr ⟨_,zT (ye hs (zT (zL (xq (g:=117) rfl (zx (zg rfl (zg rfl l1))) (Yl (zx (zg rfl (zg rfl l4))) (yh (zx (zg rfl yz)) yw gY) λzz=>VX (by lia) hl (sG (by lia)) ?_) (zx (zg rfl (zg rfl l2))) c')))),g.tr g',by rw[<-hf]⟩⟩;rewrite[M'];rw[<-hd];rfl) ((rf D.ad (ln D.T i)).mapIdx λi v=>V.tup [.int i,v]).length 0 _ [(1,.ref D.w),(2,.ref (D.ad i)),(18,.ref (D.ad o)),(0,.str k),(33,.ref l)] zt (by rewrite[H7];rw[uv];rfl) rfl ⟨rfl,rfl,rfl,rfl,rfl,rfl⟩;have Xv:=yY (F:=⟨b,JT,JT,d+20⟩) (L:=[(1,.ref D.w),(2,.ref (D.ad i)),(18,.ref (D.ad o)),(0,.str k)]) (x:=.loc 1) (y:=.loc 2) (g:=81) rfl (zx rfl) (zx rfl) c;rcases z with⟨c,rfl,_,_,_,_,hf⟩|⟨v,c,g,rfl⟩;.exact⟨zy,zI rfl rfl (zr (yu Xv) (zr (xe (t:=.enum l) rfl (zx rfl) ⟨_,hl,rfl⟩ rfl c) (zT (zL (by rw[<-hf];exact zQ))))),a⟩
 .exact⟨zy,zI rfl rfl (zr (yu Xv) (zT (xe (t:=.enum l) rfl (zx rfl) ⟨_,hl,rfl⟩ rfl c))),a.tr (.of a.r g)⟩
theorem cz(o:Option Nat):isNone (D.opt o)=JS (o.filter D.on).isNone:=by cases o with|none=>rfl|some j=>cases h:D.on j with|true=>rewrite[tF h];rewrite[IE];rw[if_pos h];rfl|false=>rewrite[WG h];rewrite[IE];rw[if_neg (by rw[h];exact IZ)];rfl
theorem ku{o:Option Nat}{j:Nat}(h:o.filter D.on=JS j):D.opt o=.ref (D.ad j)/\D.on j=JQ:=by cases o with|none=>cases h|some j'=>cases h':D.on j' with|true=>rw[IE,if_pos h']at h;cases h;exact⟨tF h',h'⟩|false=>rw[IE,if_neg (by rw[h'];exact IZ)]at h;cases h
theorem RI.nM(R:RI J D)(hi:D.on i=JQ)(hm:i<18):∃fs,C7 (J[D.ad i]?=JS (.inst 228 fs)) (lk 24 fs=JS (D.opt (yr i))) (lk 18 fs=JS (.ref (D.ad (if yf i then 4 else 3)))) (lk 21 fs=JS (.bool (yf i))) (lk 11 fs=JS (D.opt (par i))) (lk 41 fs=JS (D.opt (yT i))) (lk 72 fs=none):=let⟨_,_,_,h,_⟩:=R.oo i hi hm;⟨_,h,rfl,rfl,rfl,rfl,rfl,rfl⟩
noncomputable def de:S:=(.cons (.cond (.cmp .yS (.attr (.loc 22) 24) .none) (.cons (.ret (.attr (.loc 22) 24)) .nil) .nil) (.cons (.asg 22 (.attr (.loc 22) 11)) .nil))
theorem Kn(R:RI J D):∀(n p:Nat)(L:Loc),rank p<n->D.on p=JQ->p<18->lk 22 L=JS (.ref (D.ad p))->X2 λm L'=>match uW D.on n p with|JS j=>WL ⟨b,JT,JT,d⟩ (.cmp .yS (.loc 22) .none) de m L J (.ok (.ret (.ref (D.ad j))) L' J)|none=>WL ⟨b,JT,JT,d⟩ (.cmp .yS (.loc 22) .none) de m L J (.ok .next L' J)/\lk 2 L'=lk 2 L:=by intro n;induction n with|zero=>intro p L h;lia|succ n ih=>intro p L hr hp hm hL;obtain⟨fs,h1,h2,_,_,h5,_⟩:=R.nM hp hm;unfold uW;have hw:=zZ (F:=⟨b,JT,JT,d⟩) (J:=J) (zx hL) zQ (tS rfl);have hc:=zZ (F:=⟨b,JT,JT,d⟩) (zM (zx hL) h1 rfl h2) zQ (ri (cz _));cases ho:(yr p).filter D.on with|some j=>rw[ho]at hc;rw[(ku ho).1]at h2;exact⟨_,L,.ret (n:=0) hw (zT (ye hc (zT (zL (zM (zx hL) h1 rfl h2)))))⟩|none=>rw[ho]at hc;cases hq:par p with|none=>rw[hq]at h5;exact⟨_,_,.turn hw (zr (zO hc zj) (zr (yu (zM (zx hL) h1 rfl h5)) zj)) (.stop (n:=0) (zZ (zx yz) zQ (v8 rfl))),zg rfl rfl⟩|some p'=>obtain yb:=R.s.pm p p' hp hq;rw[hq,tF yb]at h5;obtain⟨m,L',z⟩:=ih p' (st 22 (.ref (D.ad p')) L) (by obtain this:=vF hq;lia) yb (rM hq) yz;refine⟨m+1,L',?_⟩;rw[HM];have hb:XB ⟨b,JT,JT,d⟩ L de J (.ok .next (st 22 (.ref (D.ad p')) L) J):=zr (zO hc zj) (zr (yu (zM (zx hL) h1 rfl h5)) zj);cases hu:uW D.on n p' with|some j=>rw[hu]at z;exact .turn hw hb z|none=>rw[hu]at z;exact⟨.turn hw hb z.1,z.2.trans (zg rfl rfl)⟩
end
section
variable{b:Bc}{d:Nat}{q:Bool}{J zt:St}{D:Dt}{i:Nat}{k:List Nat}
theorem W'{n:Nat}{fs:Loc}{v:V}{t:Bool}(h:J[n]?=JS (.inst 228 fs))(hl:lk 41 fs=JS v)(hv:isNone v=JS t):Call ⟨b,q,JT,d+1⟩ (.fn 225) [.ref n] J (.ok (.bool (!t)) J):=zI rfl rfl (zT (zL (zZ (zM (zx rfl) h rfl hl) zQ (ri hv))))
theorem kY{i:Nat}(hm:i<18):rank i<=7:=by
 obtain this:∀i<18,rank i<=7:=by decide+kernel
 exact this i hm
theorem MJ(R:RI J D)(hi:D.on i=JQ)(hm:i<18)(ha:yT i=none):Call ⟨b,JT,JT,d+2⟩ (.fn 742) [.ref D.w,.ref (D.ad i)] J (.ok (.ref (D.ad (match yf i with|JQ=>((par i).bind (uW D.on 7)).getD 4|JT=>3))) J):=by obtain⟨fs,h1,h2,h3,h4,h5,h6,h7⟩:=R.nM hi hm;rw[ha]at h6;have hc:E ⟨b,JT,JT,d+1⟩ [(3,.ref D.w),(2,.ref (D.ad i))] (.and (.cons (.attr (.loc 2) 21) (.cons (.not (.zl (.loc 2) 72 .nil)) .nil))) J (.ok (.bool (yf i&&JQ)) J):=oH (zM (zx rfl) h1 rfl h4) λzz=>vM (yo (zx rfl) (xS h1 rfl h7) zf (W' (t:=JQ) h1 h6 rfl));have fin:∀{L:Loc}{j:Nat},lk 2 L=JS (.ref (D.ad i))->(if yf i then 4 else 3)=j->XB ⟨b,JT,JT,d+1⟩ L (.cons (.ret (.attr (.loc 2) 18)) .nil) J (.ok (.ret (.ref (D.ad j))) L J):=λhl e=>zT (zL (zM (zx hl) h1 rfl (e▸h3)));cases hb:yf i with|false=>rw[hb]at hc;exact zI rfl rfl (zr (yu (wt hc zQ)) (zr (oj (.stop (n:=0) (zZ (zx rfl) zQ (v8 rfl)))) (fin rfl (by rw[hb];rfl))))|true=>rw[hb]at hc;cases hp:par i with|none=>rw[hp]at h5;exact zI rfl rfl (zr (yu (wq hc (zM (zx rfl) h1 rfl h5))) (zr (oj (.stop (n:=0) (zZ (zx rfl) zQ (v8 rfl)))) (fin rfl (by rw[hb];rfl))))|some p=>obtain yb:=R.s.pm i p hi hp;rw[hp,tF yb]at h5;have h0:=yu (x:=22) (wq (b:=.none) hc (zM (F:=⟨b,JT,JT,d+1⟩) (zx (x:=2) rfl) h1 (x:=11) rfl h5));obtain⟨m,L',z⟩:=Kn (b:=b) (d:=d+1) R 7 p [(3,.ref D.w),(2,.ref (D.ad i)),(22,.ref (D.ad p))] (by obtain this:=vF hp;obtain this:=kY hm;lia) yb (rM hp) rfl;rw[HM];cases hu:uW D.on 7 p with|some j=>rw[hu]at z;exact zI rfl rfl (zr h0 (zT (oj z)))|none=>rw[hu]at z;exact zI rfl rfl (zr h0 (zr (oj z.1) (fin (z.2.trans rfl) (by rw[hb];rfl))))
theorem RI.tm(R:RI J D)(hi:D.on i=JQ):X2 λc fs=>C5 (J[D.ad i]?=JS (.inst c fs)) (c=228\/c=40) (i<18->c=228) (18<=i->c=40/\lk 18 fs=JS (.ref (D.ad (i-15)))) (lk 24 fs=JS (D.opt (yr i))):=by
 by_cases h:i<18;.obtain⟨_,_,_,h1,_⟩:=R.oo i hi h;exact⟨_,_,h1,.inl rfl,λzz=>rfl,λz=>absurd h (GX.mpr z),rfl⟩
 .obtain⟨a,h1⟩:=R.th i hi (IU h);exact⟨_,_,h1,.inr rfl,λz=>absurd z h,λzz=>⟨rfl,rfl⟩,rfl⟩
theorem cW(R:RI J D)(hi:D.on i=JQ)(ha:yT i=none):Call ⟨b,JT,JT,d+3⟩ (.fn 735) [.ref D.w,.ref (D.ad i)] J (.ok (.ref (D.ad (y' D.on i))) J):=by
 obtain⟨c,fs,h1,hc,hl,hr,h2⟩:=R.tm hi;have hk:xi c 24=JQ:=by rcases hc with rfl|rfl<;>rfl
 have t0:prog.sub c 40=JQ:=by rcases hc with rfl|rfl<;>rfl
 have i0:=vM (F:=⟨b,JT,JT,d+2⟩) (yY (L:=[(3,.ref D.w),(6,.ref (D.ad i))]) (x:=.loc 6) (y:=.zu 64) (g:=23) rfl (zx rfl) (yp rfl) (tf h1 (sA hc) rfl t0));have i1:=zZ (F:=⟨b,JT,JT,d+2⟩) (L:=[(3,.ref D.w),(6,.ref (D.ad i))]) (zM (zx (x:=6) rfl) h1 hk h2) zQ (ri (cz _));unfold y';cases ho:(yr i).filter D.on with
 |some j=>rw[ho]at i1;rw[(ku ho).1]at h2;exact zI rfl rfl (zr (zO i0 zj) (zT (ye i1 (zT (zL (zM (zx rfl) h1 hk h2))))))
 |none=>
  rw[ho]at i1;by_cases hm:i<18;.have:=hl hm;subst this;have hb:Io i 18=JQ:=Iw hm;simp only[if_pos hb];obtain⟨num,main,hw,_⟩:=R.wo;exact zI rfl rfl (zr (zO i0 zj) (zr (zO i1 zj) (zT (zL (wq (yY (g:=23) rfl (zx rfl) (yp rfl) (tf h1 (sA hc) rfl rfl)) (yo (zx rfl) (xS hw rfl rfl) (zp (zx rfl) zf) (MJ R hi hm ha)))))))
  .obtain⟨rfl,h3⟩:=hr (IU hm);obtain hb:¬Io i 18=JQ:=λh=>hm (JA h);simp only[if_neg hb];exact zI rfl rfl (zr (zO i0 zj) (zr (zO i1 zj) (zT (zL (wt (yY (g:=23) rfl (zx rfl) (yp rfl) (tf h1 (sA hc) rfl rfl)) (zM (zx rfl) h1 rfl h3))))))
theorem Ko(R:RI J D):∀(n p:Nat),p<18->∀j,uW D.on n p=JS j->D.on j=JQ/\j<18:=by
 intro n;induction n with
 |zero=>intro p hp j h;cases h
 |succ n ih=>
  intro p hm j h;unfold uW at h;cases ho:(yr p).filter D.on with
  |some j'=>
   rw[ho]at h;cases h;obtain this:∀p<18,(match yr p with|JS j=>Io j 18|none=>JQ)=JQ:=by decide+kernel
   obtain this:=this p hm;refine⟨(ku ho).2,?_⟩;rw[(GG.mp ho).1]at this;exact JA this
  |none=>rw[ho]at h;cases hq:par p with|none=>rw[hq]at h;cases h|some p'=>rw[hq]at h;exact ih p' (rM hq) j h
theorem d9(R:RI J D)(hi:D.on i=JQ):D.on (y' D.on i)=JQ/\y' D.on i<18:=by
 unfold y';cases ho:(yr i).filter D.on with
 |some j=>
  have:∀p<22,(match yr p with|JS j=>Io j 18|none=>JQ)=JQ:=by decide+kernel
  have:=this i (by rcases R.s.bd i hi with h|h|h<;>lia);refine⟨(ku ho).2,?_⟩;rw[(GG.mp ho).1]at this;exact JA this
 |none=>
  obtain o3:=R.s.om 3 (by decide) (by decide);obtain o4:=R.s.om 4 (by decide) (by decide);rcases R.s.bd i hi with h|rfl|rfl;.show D.on (if Io i 18 then _ else _)=JQ/\(if Io i 18 then _ else _)<18;obtain hb:Io i 18=JQ:=Iw h;simp only[if_pos hb];cases yf i with|false=>exact⟨o3,show 3<18 by decide⟩|true=>show D.on (((par i).bind (uW D.on 7)).getD 4)=JQ/\((par i).bind (uW D.on 7)).getD 4<18;cases hp:par i with|none=>exact⟨o4,show 4<18 by decide⟩|some p=>rw[HM];cases hu:uW D.on 7 p with|none=>exact⟨o4,show 4<18 by decide⟩|some j=>exact Ko R 7 p (rM hp) j hu
  .exact⟨R.s.om 5 (by decide) (by decide),show 5<18 by decide⟩
  .exact⟨R.s.om 6 (by decide) (by decide),show 6<18 by decide⟩
theorem MY{j:Nat}(R:RI J D)(hi:D.on i=JQ)(ha:yT i=none)(hj:D.on j=JQ):∃zy,Call ⟨b,JT,JT,d+21⟩ (.fn 572) [.ref D.w,.ref (D.ad i),.ref (D.ad j)] J (.ok (.bool ((ln D.T (y' D.on i)).contains j)) zy)/\Ask D J zy:=by obtain⟨num,main,hw,_⟩:=R.wo;obtain⟨o1,o2⟩:=d9 R hi;obtain⟨l,zt,c,a,hl⟩:=cb (b:=b) (d:=d) R o1 o2;exact⟨zt,zI rfl rfl (zT (zL (yY (g:=43) rfl (yY (g:=81) rfl (zx rfl) (yo (zx rfl) (xS hw rfl rfl) (zp (zx rfl) zf) (cW R hi ha)) c) (zx rfl) (n9 a.r hl (λx hx=>((a.r.tK o1 o2).2 x hx).1) hj)))),a⟩
noncomputable def sH(ev:Bool):Option z7->Bool|JS h=>ev||zR [112,117,98,108,105,99] h.s|none=>JT
theorem pg{T:Tb}{h:z7}:∀{l:List Nat},zJ T k l=JS h->∃i∈l,(k,h)∈(T i).ms/\h.b≠none
|i::r,e=>by
 have e:(match y_ k (T i).ms with|JS h=>live h|none=>zJ T k r)=JS h:=e;cases hh:y_ k (T i).ms with
 |some h'=>rw[hh]at e;have e:live h'=JS h:=e;unfold live at e;cases hb:h'.b with|none=>rw[hb]at e;cases e|some t=>rw[hb]at e;cases e;exact⟨i,.head _,lX hh,by rw[hb];exact nofun⟩
 |none=>rw[hh]at e;obtain⟨j,h1,h2⟩:=pg e;exact⟨j,.tail _ h1,h2⟩
theorem RI.ent(R:RI J D){h:z7}{l:List Nat}(hl:∀x∈l,D.on x=JQ/\x<18)(hf:zJ D.T k l=JS h):C4 (J[h.e]?=JS (.inst 256 (D.wm h))) (D.on h.o=JQ) (wQ h) (h.b≠none):=by obtain⟨i,h1,h2,h3⟩:=pg hf;obtain⟨m1,m2⟩:=hl i h1;obtain⟨e1,e2⟩:=R.ee i m1 m2 _ h2;exact⟨e1,e2,(R.s.wf.ks i _ h2).2,h3⟩
theorem wQ.ps{h:z7}(w:wQ h):plainS h.s=JQ/\plainS h.n=JQ:=by
 obtain h1:∀s∈vd,plainS s=JQ:=by decide+kernel
 obtain h2:∀s∈yH,plainS s=JQ:=by decide+kernel
 exact⟨h1 _ w.s,h2 _ w.n⟩
theorem MD{ev:Bool}(R:RI J D)(hi:D.on i=JQ)(ha:yT i=none):∃zy,Call ⟨b,JT,JT,d+22⟩ (.fn 591) [.ref D.w,.ref (D.ad i),.str k,.bool ev] J (.ok (.bool (sH ev (zJ D.T k (ln D.T (y' D.on i))))) zy)/\Ask D J zy:=by obtain⟨num,main,hw,_⟩:=R.wo;obtain⟨o1,o2⟩:=d9 R hi;obtain⟨zt,c,a⟩:=iK (b:=b) (d:=d) (k:=k) R o1 o2;obtain h0:E ⟨b,JT,JT,d+21⟩ [(1,.ref D.w),(6,.ref (D.ad i)),(0,.str k),(91,.bool ev)] (.call (.zu 84) (.cons (.loc 1) (.cons (.zl (.loc 1) 105 (.cons (.loc 6) .nil)) (.cons (.loc 0) .nil)))) J (.ok (vj (zJ D.T k (ln D.T (y' D.on i)))) zt):=xq rfl (zx rfl) (yo (zx rfl) (xS hw rfl rfl) (zp (zx rfl) zf) (cW R hi ha)) (zx rfl) c;refine⟨zt,zI rfl rfl (zr (yu h0) (zT (zL ?_))),a⟩;cases hf:zJ D.T k (ln D.T (y' D.on i))with|none=>exact tR (zZ (zx rfl) zQ (v8 rfl))|some h=>obtain⟨h1,_,h2,_⟩:=a.r.ent (a.r.tK o1 o2).2 hf;exact w5 (zZ (zx rfl) zQ (tS rfl)) (uh (jX (zx rfl) λzz=>zZ (zM (zx rfl) h1 rfl rfl) zV (u6 h2.ps.1 rfl)))
end
theorem kA{F:Fr}{J:St}{a c r:List Nat}(e:a++c=r)(hs:short r=JQ):ur F .add (.str a) (.str c) J (.ok (.str r) J):=by subst e;exact u9 hs
noncomputable def rd(j:Nat):List Nat:=if JG j 20 then[35,60,65,62]else if JG j 21 then[35,60,66,62]else wK j
noncomputable def uf(i:Nat):List Nat:=match yT i with|none=>wK i|JS j=>[35,60,67,108,97,115,115,58]++rd j++[62]
section
variable{b:Bc}{d:Nat}{q:Bool}{J zt:St}{D:Dt}{i:Nat}{k:List Nat}
theorem k_{n:Nat}{s:List Nat}(h:xd J n s):Call ⟨b,q,JT,d+1⟩ (.fn 308) [.ref n] J (.ok (.str s) J):=by obtain⟨fs,h1,h2,h3,h4⟩:=h;exact zI rfl rfl (zr (zO (zZ (zM (zx rfl) h1 rfl h3) zQ (v8 rfl)) zj) (zr (zO (zZ (zM (zx rfl) h1 rfl h2) zQ (yX rfl)) zj) (zT (ye (zZ (zM (zx rfl) h1 rfl h4) zQ (yX rfl)) (zT (zL (zM (zx rfl) h1 rfl h2)))))))
theorem RI.nm(R:RI J D)(hi:D.on i=JQ)(hm:i<18)(ha:yT i=none):xd J (D.ad i) (wK i):=by obtain⟨_,_,_,h1,_⟩:=R.oo i hi hm;exact⟨_,h1,(show _=JS (qc i)from rfl).trans (by unfold qc;rw[ha]),(show _=JS (D.opt (yT i))from rfl).trans (by rw[ha];rfl),rfl⟩
theorem Oi{n c zP:Nat}{fs:Loc}(h:J[n]?=JS (.inst c fs))(hc:c=228\/c=40)(hC:ud zP)(hs:prog.sub c zP=JT){L:Loc}{x g:Nat}(hl:lk x L=JS (.ref n))(hg:prog.glob g=JS (.cl zP)):E ⟨b,q,JT,d⟩ L (.call (.zu 23) (.cons (.loc x) (.cons (.zu g) .nil))) J (.ok (.bool JT) J):=yY rfl (zx hl) (yp hg) (tf h (sA hc) hC hs)
theorem MC(R:RI J D){j:Nat}(hj:D.on j=JQ)(ha:yT j=none):Call ⟨b,JT,JT,d+3⟩ (.fn 361) [.ref (D.ad j)] J (.ok (.str (rd j)) J):=by
 obtain⟨c,fs,h1,hc,hl,hr,_⟩:=R.tm hj;have sub:∀zP,zP=62\/zP=82\/zP=120\/zP=140\/zP=181\/zP=161->prog.sub c zP=JT:=by rcases hc with rfl|rfl<;>(intro zP h;rcases h with rfl|rfl|rfl|rfl|rfl|rfl<;>rfl)
 obtain hd:Call ⟨b,JT,JT,d+2⟩ (.fn 346) [.ref (D.ad j),.int 6] J (.ok (.str (rd j)) J):=by
  have no:∀{zP g:Nat},ud zP->prog.sub c zP=JT->prog.glob g=JS (.cl zP)->∀{L:Loc},lk 6 L=JS (.ref (D.ad j))->E ⟨b,JT,JT,d+1⟩ L (.call (.zu 23) (.cons (.loc 6) (.cons (.zu g) .nil))) J (.ok (.bool JT) J):=λa e f zz l=>Oi h1 hc a e l f;obtain n1:=@no 62 121 rfl (sub _ (.inl rfl)) rfl;obtain n2:=@no 82 150 rfl (sub _ (.inr (.inl rfl))) rfl;obtain n3:=@no 120 153 rfl (sub _ (.inr (.inr (.inl rfl)))) rfl;obtain n4:=@no 140 152 rfl (sub _ (.inr (.inr (.inr (.inl rfl))))) rfl;by_cases hm:j<18
  .have:=hl hm;subst this;have e:rd j=wK j:=by
    obtain QR:¬JG j 20=JQ:=λh=>by obtain this:=JD h;lia
    obtain QQ:¬JG j 21=JQ:=λh=>by obtain this:=JD h;lia
    unfold rd;rewrite[if_neg QR];rw[if_neg QQ]
   rw[e];exact zI rfl rfl (zr (zO (n1 rfl) zj) (zr (zO (n2 rfl) zj) (zr (zO (n3 rfl) zj) (zr (zO (n4 rfl) zj) (zT (ye (yY rfl (zx rfl) (yp rfl) (tf h1 (sA hc) rfl rfl)) (zT (zL (yC rfl (zx rfl) (k_ (R.nm hj hm ha)))))))))))
  .obtain⟨rfl,h3⟩:=hr (IU hm);obtain n5:=@no 228 44 rfl rfl rfl;obtain n6:=@no 181 125 rfl rfl rfl;obtain n7:=@no 161 149 rfl rfl rfl;obtain this:∃o,C8 (o<18) (D.on o=JQ) (yT o=none) (j-15=o) ([35,60]++wK o=([35,60]++wK o)) (([35,60]++wK o)++[62]=rd j) (short (rd j)=JQ) (short ([35,60]++wK o)=JQ):=by
    rcases R.s.bd j hj with h|rfl|rfl;.exact absurd h hm
    .exact⟨5,by decide,R.s.om 5 (by decide) (by decide),rfl,rfl,rfl,rfl,rfl,rfl⟩
    .exact⟨6,by decide,R.s.om 6 (by decide) (by decide),rfl,rfl,rfl,rfl,rfl,rfl⟩
   obtain⟨o,o1,o2,o3,o4,o5,o6,o7,o8⟩:=this;rw[o4]at h3;exact zI rfl rfl (zr (zO (n1 rfl) zj) (zr (zO (n2 rfl) zj) (zr (zO (n3 rfl) zj) (zr (zO (n4 rfl) zj) (zr (zO (n5 rfl) zj) (zr (yu (yC rfl (zM (zx rfl) h1 rfl h3) (k_ (R.nm o2 o1 o3)))) (zr (zO (n6 rfl) zj) (zr (zO (n7 rfl) zj) (zT (zL (yh (yh zV (zx rfl) (kA o5 o8)) zV (kA o6 o7))))))))))))
 exact zI rfl rfl (zr (yu (yC rfl (zx rfl) (cP (R.kQ hj)))) (zT (ye (zZ (zx rfl) zV (u6 rfl rfl)) (zT (zL (yY rfl (zx rfl) (zx rfl) hd))))))
theorem kC{i j:Nat}(h:yT i=JS j):yT j=none:=by
 obtain this:∀i<18,(match yT i with|JS j=>(yT j).isNone|none=>JQ)=JQ:=by decide+kernel
 by_cases hi:i<18;.obtain this:=this i hi;rw[h]at this;exact Ht.mp this
 .rw[yT,rI (IU hi)]at h;cases h
theorem cf(R:RI J D)(hi:D.on i=JQ)(hm:i<18)(wF:∀j,yT i=JS j->D.on j=JQ):Call ⟨b,JT,JT,d+4⟩ (.fn 308) [.ref (D.ad i)] J (.ok (.str (uf i)) J):=by
 obtain hs:∀i<18,(match yT i with|JS j=>short ([35,60,67,108,97,115,115,58]++rd j)&&short ([35,60,67,108,97,115,115,58]++rd j++[62])|none=>JQ)=JQ:=by decide+kernel
 obtain hs:=hs i hm;unfold uf;cases ha:yT i with|none=>exact k_ (R.nm hi hm ha)|some j=>rw[ha]at hs;obtain⟨s1,s2⟩:=zh hs;obtain⟨kp,a1,a3,h1,_⟩:=R.oo i hi hm;obtain h2:lk 41 (D.w_ i a1 a3 kp)=JS (.ref (D.ad j)):=(show _=JS (D.opt (yT i))from rfl).trans (by rewrite[ha];rw[tF (wF j ha)]);exact zI rfl rfl (zT (ye (zZ (zM (zx rfl) h1 rfl h2) zQ (tS rfl)) (zT (zL (yh (yh zV (yC rfl (zM (zx rfl) h1 rfl h2) (MC R (wF j ha) (kC ha))) (kA rfl s1)) zV (kA rfl s2))))))
end
section
variable{b:Bc}{d:Nat}{q:Bool}{J zy:St}{L:Loc}{rest Vn:List O}{o o':O}{c:Nat}{fs:Loc}
theorem fJ:(J++o::rest)[J.length]?=JS o:=by rewrite[I_ (JK _)];rw[Hn];rfl
theorem VZ:(J++o::rest).set J.length o'=J++o'::rest:=by rewrite[List.set_append_right _ _ (JK _)];rw[Hn];rfl
theorem X6:(J++rest).length=J.length+rest.length:=JO
theorem xn{x y:Nat}{e:M}{v:V}(hL:lk y L=JS (.ref J.length))(he:E ⟨b,q,JT,d⟩ L e (J++.inst c fs::rest) (.ok v (J++.inst c fs::Vn)))(hk:xi c x=JQ)(hs:short fs=JQ):X1 ⟨b,q,JT,d⟩ L (.zC (.loc y) x e) (J++.inst c fs::rest) (.ok .next L (J++.inst c (st x v fs)::Vn)):=by obtain this:=rE (F:=⟨b,q,JT,d⟩) rfl he (zx hL) fJ hk hs;rw[VZ]at this;exact this
theorem fg:E ⟨b,q,JT,d⟩ L (.wg .nil) (J++rest) (.ok (.ref (J.length+rest.length)) (J++(rest++[.dict []]))):=by rewrite[<-J'];rw[<-X6];exact jY
theorem Yp:E ⟨b,q,JT,d⟩ L (.lst .nil) (J++rest) (.ok (.ref (J.length+rest.length)) (J++(rest++[.list []]))):=by rewrite[<-J'];rw[<-X6];exact y5 zf rfl
theorem oD{c fi:Nat}{fd:FD}{args:List V}(hc:prog.cls c=JS (fi,JT))(hf:prog.fn fi=JS fd)(hb:uo fd.params fd.dflt (.ref J.length::args)=JS L){zN:Loc}(hx:XB ⟨b,q,JT,d⟩ L fd.body (J++[.inst c []]) (.ok .next zN zy)):Call ⟨b,q,JT,d+2⟩ (.cl c) args J (.ok (.ref J.length) zy):=SI rfl hc (mE (F:=⟨b,q,JT,d+1⟩) rfl rfl hf hb hx)
noncomputable def hF(nu C:V)(a:Nat):Loc:=[(17,nu),(18,C),(114,.ref a),(24,.none),(106,.bool JT),(104,.none)]
noncomputable def VB(c:Nat):Bool:=xi c 17&&(xi c 18&&(xi c 114&&(xi c 24&&(xi c 106&&xi c 104))))
theorem M8{nu C:V}(hk:VB c=JQ):Call ⟨b,q,JT,d+1⟩ (.fn 37) [.ref J.length,nu,C] (J++[.inst c []]) (.ok .none (J++[.inst c (hF nu C (J.length+1)),.dict []])):=by obtain⟨k1,hk⟩:=zh hk;obtain⟨k2,hk⟩:=zh hk;obtain⟨k3,hk⟩:=zh hk;obtain⟨k4,hk⟩:=zh hk;obtain⟨k5,k6⟩:=zh hk;exact vK rfl rfl (zr (xn rfl (zx rfl) k1 rfl) (zr (xn rfl (zx rfl) k2 rfl) (zr (xn rfl (fg (rest:=[.inst c _])) k3 rfl) (zr (xn rfl zQ k4 rfl) (zr (xn rfl sR k5 rfl) (zr (xn rfl zQ k6 rfl) zj))))))
theorem bk{nu C:V}(hk:VB c=JQ)(h0:lk 3 L=JS (.ref J.length))(h1:lk 17 L=JS nu)(h2:lk 18 L=JS C):X1 ⟨b,q,JT,d+1⟩ L (.expr (.zl (.zu 64) 47 (.cons (.loc 3) (.cons (.loc 17) (.cons (.loc 18) .nil))))) (J++[.inst c []]) (.ok .next L (J++[.inst c (hF nu C (J.length+1)),.dict []])):=yJ (yo (yp rfl) (fP rfl) (zp (zx h0) (zp (zx h1) (zp (zx h2) zf))) (M8 hk))
theorem Vt{nu C xr pa:V}{ic:Bool}:XB ⟨b,q,JT,d+1⟩ [(3,.ref J.length),(17,nu),(18,C),(0,xr),(21,.bool ic),(11,pa),(42,.none)] b7 (J++[.inst 228 []]) (.ok .next [(3,.ref J.length),(17,nu),(18,C),(0,xr),(21,.bool ic),(11,pa),(42,.none)] (J++[.inst 228 (mf (J.length+1) (J.length+2) (J.length+3) (J.length+4) (J.length+5) nu C .none xr ic pa .none .none .none),.dict [],.dict [],.dict [],.list [],.list []])):=zr (bk rfl rfl rfl rfl) (zr (xn rfl (zx rfl) rfl rfl) (zr (xn rfl (zx rfl) rfl rfl) (zr (xn rfl (zx rfl) rfl rfl) (zr (xn rfl (zx rfl) rfl rfl) (zr (xn rfl (fg (rest:=[.inst 228 _,.dict []])) rfl rfl) (zr (xn rfl (fg (rest:=[.inst 228 _,.dict [],.dict []])) rfl rfl) (zr (xn rfl (Yp (rest:=[.inst 228 _,.dict [],.dict [],.dict []])) rfl rfl) (zr (xn rfl (Yp (rest:=[.inst 228 _,.dict [],.dict [],.dict [],.list []])) rfl rfl) (zr (xn rfl zQ rfl rfl) (zr (xn rfl zQ rfl rfl) (zr (xn rfl zQ rfl rfl) zj)))))))))))
noncomputable def qd(n:Nat)(nu C xr:V)(ic:Bool)(pa:V):List O:=[.inst 228 (mf (n+1) (n+2) (n+3) (n+4) (n+5) nu C .none xr ic pa .none .none .none),.dict [],.dict [],.dict [],.list [],.list []]
theorem MO{nu C xr:V}{ic:Bool}:Call ⟨b,q,JT,d+3⟩ (.cl 228) [nu,C,xr,.bool ic] J (.ok (.ref J.length) (J++qd J.length nu C xr ic .none)):=oD rfl rfl rfl Vt
theorem MN{nu C xr pa:V}{ic:Bool}:Call ⟨b,q,JT,d+3⟩ (.cl 228) [nu,C,xr,.bool ic,pa,.none] J (.ok (.ref J.length) (J++qd J.length nu C xr ic pa)):=oD rfl rfl rfl Vt
theorem M9{nu C t:V}:Call ⟨b,q,JT,d+3⟩ (.cl 62) [nu,C,t] J (.ok (.ref J.length) (J++[.inst 62 (st 62 t (hF nu C (J.length+1))),.dict []])):=oD rfl rfl rfl (zr (bk rfl rfl rfl rfl) (zr (xn rfl (zx rfl) rfl rfl) zj))
theorem Mc{nu C t:V}:Call ⟨b,q,JT,d+3⟩ (.cl 181) [nu,C,t] J (.ok (.ref J.length) (J++[.inst 181 (st 161 .none (st 59 t (hF nu C (J.length+1)))),.dict []])):=oD rfl rfl rfl (zr (bk rfl rfl rfl rfl) (zr (xn rfl (zx rfl) rfl rfl) (zr (xn rfl zQ rfl rfl) zj)))
noncomputable def jW(xr C so pa bo si:V):Loc:=[(0,xr),(18,C),(35,so),(89,pa),(63,bo),(14,si),(115,.tup []),(111,.none)]
theorem cg{xr C so pa bo si:V}:Call ⟨b,q,JT,d+2⟩ (.cl 256) [xr,C,so,pa,bo,si] J (.ok (.ref J.length) (J++[.inst 256 (jW xr C so pa bo si)])):=oD rfl rfl rfl (zr (xn rfl (zx rfl) rfl rfl) (zr (xn rfl (zx rfl) rfl rfl) (zr (xn rfl (zx rfl) rfl rfl) (zr (xn rfl (zx rfl) rfl rfl) (zr (xn rfl (zx rfl) rfl rfl) (zr (xn rfl (zx rfl) rfl rfl) (zr (xn rfl (x_ zf rfl) rfl rfl) (zr (xn rfl zQ rfl rfl) zj))))))))
theorem MM{n:Nat}{xr C so pa bo si We zm:V}{s:List Nat}(h:J[n]?=JS (.inst 256 (jW xr C so pa bo si))):Call ⟨b,q,JT,d+3⟩ (.fn 253) [.ref n,We,zm,.str s] J (.ok (.ref J.length) (J++[.inst 256 (jW We zm so pa bo (.str s))])):=by obtain h':∀o,(J++[o])[n]?=JS (.inst 256 (jW xr C so pa bo si)):=λo=>(Gr.push o).get h;exact zI rfl rfl (zr (yu (y6 (yp rfl) (zp (zx rfl) (zp (zx rfl) (zp (zM (zx rfl) h rfl rfl) (zp (zM (zx rfl) h rfl rfl) (zp (zM (zx rfl) h rfl rfl) (zp (wt (zZ (zx rfl) zQ (yX rfl)) (zx rfl)) zf)))))) cg)) (zr (xn rfl (zM (zx rfl) (h' _) rfl rfl) rfl rfl) (zr (xn rfl (zM (zx rfl) (h' _) rfl rfl) rfl rfl) (zT (zL (zx rfl))))))
end
theorem fz{k:List Nat}{v:V}:∀{md:List (List Nat×V)},zG k (dput k v md)=JS v|[]=>by show(match zR k k with|JQ=>JS v|JT=>zG k [])=JS v;rw[xj.mpr rfl]|(a,w)::r=>by show zG k (match zR k a with|JQ=>(a,v)::r|JT=>(a,w)::dput k v r)=JS v;cases q:zR k a with|true=>show(match zR k a with|JQ=>JS v|JT=>zG k r)=JS v;rw[q]|false=>show(match zR k a with|JQ=>JS w|JT=>zG k (dput k v r))=JS v;rw[q];exact fz
theorem gA{k j:List Nat}{v:V}(h:zR j k=JT):∀{md:List (List Nat×V)},zG j (dput k v md)=zG j md|[]=>by show(match zR j k with|JQ=>JS v|JT=>zG j [])=_;rw[h]|(a,w)::r=>by show zG j (match zR k a with|JQ=>(a,v)::r|JT=>(a,w)::dput k v r)=(match zR j a with|JQ=>JS w|JT=>zG j r);cases q:zR k a with|true=>show(match zR j a with|JQ=>JS v|JT=>zG j r)=_;rewrite[<-xj.mp q];rw[h]|false=>show(match zR j a with|JQ=>JS w|JT=>zG j (dput k v r))=_;rw[gA h]
section
variable{b:Bc}{d:Nat}{q:Bool}{J zt zb zy:St}{D:Dt}{i:Nat}{k:List Nat}
structure Fx(D:Dt)(J zy:St):Prop where
 r:RI zy D
 k:Bt [D.w,D.w+2] J zy
 m:∀md,J[D.w+2]?=some (.dict md)->∃pF,zy[D.w+2]?=some (.dict pF)/\∀s v,zG s md=some v->zG s pF=some v
theorem Fx.tr(a:Fx D J zt)(c:Fx D zt zy):Fx D J zy:=⟨c.r,a.k.tr c.k,λmd h=>let⟨NW,h1,g1⟩:=a.m md h;let⟨nM,h2,g2⟩:=c.m NW h1;⟨nM,h2,λs v h=>g2 s v (g1 s v h)⟩⟩
theorem Fx.of(R:RI J D)(g:Gr J zy):Fx D J zy:=⟨R.gr g,.of g,λmd h=>⟨md,g.get h,λzz zz h=>h⟩⟩
theorem NH{w r:Nat}(h:w+5<=r):r∉[w,w+2]:=λh=>by
 rcases JJ.mp h with h|h;.lia
 .rw[JP]at h;lia
theorem RI.fx(R:RI J D)(k:Bt [D.w,D.w+2] J zy)(wo:X2 λnum main=>zy[D.w]?=JS (.inst 899 (wf D.w num D.zE main))/\∀i,D.on i=JQ->D.nu i<=num)(md:∃md,zy[D.w+2]?=JS (.dict md)/\r6 zy D md):RI zy D:=by
 obtain⟨n0,m0,hw,_⟩:=R.wo;refine R.same (λr o h n1 n2=>k.2 r o h λz=>?_) wo md λi hi h=>?_
 .rcases JJ.mp z with z|z;.subst z;replace h:=yc hw h;cases h;cases n2
  .exact n1 (JP.mp z)
 .obtain⟨kp,a1,a3,h1,h2⟩:=R.oo i hi h;exact⟨kp,a1,a3,k.2 _ _ h1 (NH (R.s.lo i hi).1),h2⟩
theorem xd.bt{rs:List Nat}(k:Bt rs J zy){n:Nat}{s:List Nat}(hn:∀fs,J[n]?=JS (.inst 228 fs)->n∉rs)(h:xd J n s):xd zy n s:=let⟨fs,h1,h2⟩:=h;⟨fs,k.2 n _ h1 (hn fs h1),h2⟩
theorem RI.pC(R:RI J D){n:Nat}{fs:Loc}(h:J[n]?=JS (.inst 228 fs)):n∉[D.w,D.w+2]:=λz=>by
 obtain⟨n0,m0,hw,_⟩:=R.wo;rcases JJ.mp z with z|z;.subst z;replace h:=yc hw h;cases h
 .exact R.iX h rfl (JP.mp z)
theorem cZ{num:Int}{main:V}(hw:J[D.w]?=JS (.inst 899 (wf D.w num D.zE main))):Call ⟨b,JT,JT,d+1⟩ (.fn 680) [.ref D.w] J (.ok (.int (num+1)) (J.set D.w (.inst 899 (wf D.w (num+1) D.zE main)))):=zI rfl rfl (zr (bp rfl (zx rfl) hw rfl rfl yw hw rfl) (zT (zL (zM (zx rfl) (get_set hw) rfl rfl))))
theorem YJ(R:RI J D){num:Int}{main:V}(hw:J[D.w]?=JS (.inst 899 (wf D.w num D.zE main)))(hn:∀i,D.on i=JQ->D.nu i<=num):Fx D J (J.set D.w (.inst 899 (wf D.w (num+1) D.zE main))):=by
 have k:Bt [D.w,D.w+2] J (J.set D.w (.inst 899 (wf D.w (num+1) D.zE main))):=Bt.re.set _ (.inl (.head _));obtain ne:D.w≠D.w+2:=by lia
 refine⟨R.fx k ⟨_,main,get_set hw,λi h=>Fq (hn i h) (by lia)⟩ ?_,k,λmd h=>⟨md,zK h ne,λzz zz h=>h⟩⟩;obtain⟨md,h1,h2⟩:=R.md;exact⟨md,zK h1 ne,h2.to λn s e=>e.bt k λzz h=>R.pC h⟩
structure vA(D:Dt)(yx:St)(n:Nat)(s:List Nat)(fs:Loc)(zv:St):Prop where
 b:Bt [D.w,D.w+2] yx zv
 r:RI zv D
 o:zv[n]?=some (.inst 228 fs)
 l:C3 (lk 0 fs=some (.str s)) (lk 41 fs=some .none) (lk 42 fs=some .none)
 m:∃md,C3 (zv[D.w+2]?=some (.dict md)) (zG s md=some (.ref n)) (∀tJ,yx[D.w+2]?=some (.dict tJ)->∀s v,zG s tJ=some v->zG s md=some v)
section
variable{yx zv zk:St}{n:Nat}{s:List Nat}{fs xF:Loc}
theorem vA.fx(j:vA D yx n s fs zv)(f:Fx D zv zk):vA D yx n s fs zk:=by obtain⟨md,h1,h2,h3⟩:=j.m;obtain⟨pF,xD,tp⟩:=f.m md h1;exact⟨j.b.tr f.k,f.r,f.k.2 _ _ j.o (j.r.pC j.o),j.l,pF,xD,tp _ _ h2,λtJ h s v e=>tp _ _ (h3 tJ h s v e)⟩
theorem vA.wr(j:vA D yx n s fs zv)(gh:RI yx D){m:Nat}{o:O}(hm:yx.length<=m)(hn:m=n->C4 (o=.inst 228 xF) (lk 0 xF=JS (.str s)) (lk 41 xF=JS .none) (lk 42 xF=JS .none))(hf:m≠n->xF=fs/\∃xs,zv[m]?=JS (.list xs)):vA D yx n s xF (zv.set m o):=by
 obtain⟨num,main,hw,hl⟩:=j.r.wo;obtain⟨md,h1,h2,h3⟩:=j.m;obtain⟨_,_,w0,_⟩:=gh.wo;obtain⟨_,m0,_⟩:=gh.md;obtain n1:m≠D.w:=λe=>absurd (y0 w0) (by lia);obtain n2:m≠D.w+2:=λe=>absurd (y0 m0) (by lia);have bt:=j.b.set (r:=m) o (.inr hm);have em:∀a s',xd zv a s'->a≠n->xd (zv.set m o) a s':=λa s'⟨f,e,z⟩ha=>by
  refine⟨f,zK e λq=>?_,z⟩;by_cases qn:m=n;.exact ha (q.symm.trans qn)
  .obtain⟨_,xs,hx⟩:=hf qn;rw[<-q,hx]at e;cases e
 have eo:(zv.set m o)[n]?=JS (.inst 228 xF)/\(C3 (lk 0 xF=JS (.str s)) (lk 41 xF=JS .none) (lk 42 xF=JS .none)):=by
  by_cases qn:m=n;.obtain⟨e1,e2,e3,e4⟩:=hn qn;subst qn e1;exact⟨get_set j.o,e2,e3,e4⟩
  .rw[(hf qn).1];exact⟨zK j.o qn,j.l⟩
 refine⟨bt,gh.fx bt ⟨num,main,zK hw n1,hl⟩ ⟨md,zK h1 n2,?_⟩,eo.1,eo.2,md,zK h1 n2,h2,h3⟩;obtain⟨pF,xD,h4⟩:=j.r.md;replace xD:=yc h1 xD;cases xD;refine⟨h4.j,λs' hs v hv=>?_,h4.nd,h4.ks⟩;obtain⟨a,e,z⟩:=h4.e s' hs v hv;refine⟨a,e,?_⟩;by_cases qa:a=n;.subst qa;obtain⟨f,q1,q2,_⟩:=z;replace q1:=yc j.o q1;cases q1;replace q2:=yc j.l.1 q2;cases q2;exact⟨xF,eo.1,eo.2⟩
 .exact em a s' z qa
end
end
noncomputable def mods:List (List Nat):=[[75,101,114,110,101,108],[67,111,109,112,97,114,97,98,108,101],[69,110,117,109,101,114,97,98,108,101]]
section
variable{b:Bc}{d:Nat}{q:Bool}{J zt zb zy:St}{D:Dt}{i:Nat}{k:List Nat}
noncomputable abbrev tX(b:Bc)(d:Nat)(D:Dt)(s:List Nat):Prop:=∀zv,RI zv D->X2 λn zk=>C3 (Call ⟨b,JT,JT,d⟩ (.fn 701) [.ref D.w,.str s] zv (.ok (.ref n) zk)) (Fx D zv zk) (s∈u0->xd zk n s)
theorem m7{L:Loc}{x:Nat}{s:List Nat}(R:RI J D)(h:tX b d D s)(hx:lk x L=JS (.ref D.w)){m:M}(hm:E ⟨b,JT,JT,d⟩ L m J (.ok (.str s) J)):X2 λn zk=>C3 (E ⟨b,JT,JT,d⟩ L (.zl (.loc x) 38 (.cons m .nil)) J (.ok (.ref n) zk)) (Fx D J zk) (s∈u0->xd zk n s):=by obtain⟨num,main,hw,_⟩:=R.wo;obtain⟨n,zk,c,f,g⟩:=h J R;exact⟨n,zk,yo (zx hx) (xS hw rfl rfl) (zp hm zf) c,f,g⟩
theorem ka{s:List Nat}{ic:Bool}{pa:Option (List Nat)}{mx:List (List Nat)}(R:RI J D)(hs:s∈u0)(h1:mods.any (zR s)=!ic)(h2:zG s oN=JS (match pa with|JS p=>.str p|none=>.none))(h3:(zG s nJ).getD (.tup [])=.tup (mx.map V.str))(Ju:mx.length<=5)(nc:short (s++[46])=JQ)(hn:∀md,J[D.w+2]?=JS (.dict md)->zG s md=none)(p1:∀p,pa=JS p->tX b (d+3) D p)(p2:tX b (d+3) D (if ic then[67,108,97,115,115]else[77,111,100,117,108,101]))(p3:∀p∈mx,tX b (d+3) D p):X2 λn zy=>C3 (Call ⟨b,JT,JT,d+4⟩ (.fn 706) [.ref D.w,.str s] J (.ok (.ref n) zy)) (Fx D J zy) (xd zy n s):=by
 obtain⟨num,main,hw,uz⟩:=R.wo;obtain f1:=YJ R hw uz;obtain⟨md,pX,ng⟩:=f1.r.md;obtain hn:=hn md (by obtain this:=zK (o:=.inst 899 (wf D.w (num+1) D.zE main)) pX (show D.w≠D.w+2 by lia);obtain⟨tJ,e0,_⟩:=R.md;obtain e1:=zK (o:=.inst 899 (wf D.w (num+1) D.zE main)) e0 (show D.w≠D.w+2 by lia);replace e1:=yc pX e1;cases e1;exact e0);obtain sS:=get_set (o:=.inst 899 (wf D.w (num+1) D.zE main)) hw;generalize wC:J.set D.w (.inst 899 (wf D.w (num+1) D.zE main))=zv at*;have len:zv.length=J.length:=by rewrite[<-wC];rw[IB]
 have g2:Gr zv (zv++qd zv.length (.int (num+1)) .none (.str s) ic .none):=⟨by rw[JO];exact Hy _ _,λr hr=>Hu hr⟩;obtain eQ:=g2.get pX;obtain ho:(zv++qd zv.length (.int (num+1)) .none (.str s) ic .none)[zv.length]?=JS (.inst 228 (mf (zv.length+1) (zv.length+2) (zv.length+3) (zv.length+4) (zv.length+5) (.int (num+1)) .none .none (.str s) ic .none .none .none .none)):=fJ;obtain kl:md.length<=1000:=by obtain this:=dE (k:=u0++(IF 5).map wK) ng.nd λx hx=>(ng.ks x hx).elim (HN _) λ⟨j,hj,e⟩=>He _ (IG.mpr ⟨j,Hw.mpr hj,e.symm⟩);rw[JN]at this;exact J4 this (by decide)
 have wU:D.w+2≠zv.length:=IP (y0 pX);have j0:vA D J zv.length s (mf (zv.length+1) (zv.length+2) (zv.length+3) (zv.length+4) (zv.length+5) (.int (num+1)) .none .none (.str s) ic .none .none .none .none) ((zv++qd zv.length (.int (num+1)) .none (.str s) ic .none).set (D.w+2) (.dict (dput s (.ref zv.length) md))):=by
  have bt:Bt [D.w,D.w+2] J ((zv++qd zv.length (.int (num+1)) .none (.str s) ic .none).set (D.w+2) (.dict (dput s (.ref zv.length) md))):=(f1.k.tr (Bt.of g2)).set _ (.inl (.tail _ (.head _)));have PN:D.w+2≠D.w:=by lia
  have em:∀a s',xd zv a s'->xd ((zv++qd zv.length (.int (num+1)) .none (.str s) ic .none).set (D.w+2) (.dict (dput s (.ref zv.length) md))) a s':=λa s'⟨f,e,z⟩=>⟨f,zK (g2.get e) (λz=>by rw[<-z,pX]at e;cases e),z⟩;have dn:∀s' v,zG s' md=JS v->zG s' (dput s (.ref zv.length) md)=JS v:=λs' v h=>by rw[gA];exact h;cases z:zR s' s with|false=>rfl|true=>rw[xj.mp z,hn]at h;cases h
  refine⟨bt,R.fx bt ⟨_,main,zK (g2.get sS) PN,λi hi=>Fq (uz i hi) (by lia)⟩ ⟨_,get_set eQ,λj hj=>dn _ _ (ng.j j hj),λs' sU v hv=>?_,mB ng.nd,λx hx=>?_⟩,zK ho wU,⟨rfl,rfl,rfl⟩,_,get_set eQ,fz,λtJ h=>?_⟩;.cases z:zR s' s with|true=>rw[xj.mp z]at hv⊢;replace hv:=yc fz hv;cases hv;exact⟨_,rfl,_,zK ho wU,rfl,rfl,rfl⟩|false=>rw[gA z]at hv;obtain⟨a,e,z⟩:=ng.e s' sU v hv;exact⟨a,e,em a s' z⟩
  .rcases fp hx with e|e;.rw[e];exact .inl hs
   .exact ng.ks x e
  .obtain⟨pF,xD,tp⟩:=f1.m tJ h;replace xD:=yc pX xD;cases xD;exactλs v e=>dn s v (tp s v e)
 have x0:=yu (F:=⟨b,JT,JT,d+3⟩) (L:=[(3,.ref D.w),(0,.str s)]) (x:=21) (J:=J) (zZ (zx (x:=0) rfl) (yp (x:=168) rfl) (gT (l:=mods) rfl).2);rw[h1,Bool.not_not]at x0;have x1:=yu (F:=⟨b,JT,JT,d+3⟩) (L:=[(3,.ref D.w),(0,.str s),(21,.bool ic)]) (x:=4) (y6 (fm:=.zu 44) (yp rfl) (zp (yo (zx (x:=3) rfl) (xS (x:=17) hw rfl rfl) zf (wC▸cZ hw)) (zp zQ (zp (zx (x:=0) rfl) (zp (zx (x:=21) rfl) zf)))) MO);have x2:=ot (F:=⟨b,JT,JT,d+3⟩) (L:=[(3,.ref D.w),(0,.str s),(21,.bool ic),(4,.ref zv.length)]) rfl (zx (x:=4) rfl) (zM (x:=76) (zx (x:=3) rfl) (g2.get sS) rfl rfl) (zx (x:=0) rfl) eQ (xN kl);generalize(zv++qd zv.length (.int (num+1)) .none (.str s) ic .none).set (D.w+2) (.dict (dput s (.ref zv.length) md))=wI at*;obtain le:J.length<=zv.length:=Nat.le_of_eq len.symm;obtain⟨wR,x3,j1⟩:∃zk,X1 ⟨b,JT,JT,d+3⟩ [(3,.ref D.w),(0,.str s),(21,.bool ic),(4,.ref zv.length)] (.zC (.loc 4) 34 (.loc 0)) wI (.ok .next [(3,.ref D.w),(0,.str s),(21,.bool ic),(4,.ref zv.length)] zk)/\vA D J zv.length s (st 34 (.str s) (mf (zv.length+1) (zv.length+2) (zv.length+3) (zv.length+4) (zv.length+5) (.int (num+1)) .none .none (.str s) ic .none .none .none .none)) zk:=⟨_,rE rfl (zx rfl) (zx rfl) j0.o rfl rfl,j0.wr R le (λzz=>⟨rfl,rfl,rfl,rfl⟩) λh=>absurd rfl h⟩;have x4:=yu (F:=⟨b,JT,JT,d+3⟩) (L:=[(3,.ref D.w),(0,.str s),(21,.bool ic),(4,.ref zv.length)]) (x:=11) (yL (yp (x:=171) rfl) (zx (x:=0) rfl) (n8 (.inr j1.r.c0) h2));obtain⟨pv,JW,e5,f5⟩:X2 λpv zk=>E ⟨b,JT,JT,d+3⟩ [(3,.ref D.w),(0,.str s),(21,.bool ic),(4,.ref zv.length),(11,(match pa with|JS p=>.str p|none=>.none))] (.ite (.cmp .is (.loc 11) .none) .none (.zl (.loc 3) 38 (.cons (.loc 11) .nil))) wR (.ok pv zk)/\Fx D wR zk:=by cases pa with|none=>exact⟨_,wR,wq (zZ (zx rfl) zQ (yX rfl)) zQ,.of j1.r .rfl⟩|some p=>obtain⟨n,zk,e,f,_⟩:=m7 (L:=[(3,.ref D.w),(0,.str s),(21,.bool ic),(4,.ref zv.length),(11,.str p)]) (x:=3) j1.r (p1 p rfl) rfl (zx (x:=11) rfl);exact⟨_,zk,wt (zZ (zx rfl) zQ (yX rfl)) e,f⟩
 generalize(match pa with|JS p=>V.str p|none=>V.none)=pV at*;obtain j2:=j1.fx f5;obtain⟨K9,x5,j3⟩:∃zk,X1 ⟨b,JT,JT,d+3⟩ [(3,.ref D.w),(0,.str s),(21,.bool ic),(4,.ref zv.length),(11,pV)] (.zC (.loc 4) 11 (.ite (.cmp .is (.loc 11) .none) .none (.zl (.loc 3) 38 (.cons (.loc 11) .nil)))) wR (.ok .next [(3,.ref D.w),(0,.str s),(21,.bool ic),(4,.ref zv.length),(11,pV)] zk)/\vA D J zv.length s (st 11 pv (st 34 (.str s) (mf (zv.length+1) (zv.length+2) (zv.length+3) (zv.length+4) (zv.length+5) (.int (num+1)) .none .none (.str s) ic .none .none .none .none))) zk:=⟨_,rE rfl e5 (zx rfl) j2.o rfl rfl,j2.wr R le (λzz=>⟨rfl,rfl,rfl,rfl⟩) λh=>absurd rfl h⟩;obtain⟨on,JV,e6,f6,_⟩:=m7 (L:=[(3,.ref D.w),(0,.str s),(21,.bool ic),(4,.ref zv.length),(11,pV)]) (x:=3) (m:=(.ite (.loc 21) (.str [67,108,97,115,115]) (.str [77,111,100,117,108,101]))) j3.r p2 rfl (by cases ic with|true=>exact wq (zx rfl) zV|false=>exact wt (zx rfl) zV);obtain j4:=j3.fx f6;obtain⟨r9,x6,j5⟩:∃zk,X1 ⟨b,JT,JT,d+3⟩ [(3,.ref D.w),(0,.str s),(21,.bool ic),(4,.ref zv.length),(11,pV)] (.zC (.loc 4) 18 (.zl (.loc 3) 38 (.cons (.ite (.loc 21) (.str [67,108,97,115,115]) (.str [77,111,100,117,108,101])) .nil))) K9 (.ok .next [(3,.ref D.w),(0,.str s),(21,.bool ic),(4,.ref zv.length),(11,pV)] zk)/\vA D J zv.length s (st 18 (.ref on) (st 11 pv (st 34 (.str s) (mf (zv.length+1) (zv.length+2) (zv.length+3) (zv.length+4) (zv.length+5) (.int (num+1)) .none .none (.str s) ic .none .none .none .none)))) zk:=⟨_,rE rfl e6 (zx rfl) j4.o rfl rfl,j4.wr R le (λzz=>⟨rfl,rfl,rfl,rfl⟩) λh=>absurd rfl h⟩;generalize jI:(st 18 (.ref on) (st 11 pv (st 34 (.str s) (mf (zv.length+1) (zv.length+2) (zv.length+3) (zv.length+4) (zv.length+5) (.int (num+1)) .none .none (.str s) ic .none .none .none .none))))=fs at*;have Jt:zv.length<r9.length:=y0 j5.o;have jg:vA D J zv.length s fs (r9++[.list []]):=j5.fx (.of j5.r (Gr.push _));have PK:r9.length∉[D.w,D.w+2]:=λz=>by
  rcases JJ.mp z with z|z;.obtain⟨_,_,w,_⟩:=R.wo;exact absurd (y0 w) (by lia)
  .rw[JP]at z;exact absurd (y0 pX) (by lia)
 obtain⟨acc,JU,k,k1,k2,k3⟩:=CL.go (F:=⟨b,JT,JT,d+3⟩) (L:=[(3,.ref D.w),(0,.str s),(21,.bool ic),(4,.ref zv.length),(11,pV)]) (xs:=[66]) (t:=.tup (mx.map V.str)) (elt:=(.zl (.loc 3) 38 (.cons (.loc 66) .nil))) (yd:=.nil) (n0:=r9.length) (l:=mx.map V.str) (zs:=mx) (g:=λzz z=>.str z) (JN _) (λp z h=>by rewrite[JF];rw[h];rfl) (P:=λp ys acc zk=>C3 (vA D J zv.length s fs zk) (acc.length<=p) (zk[r9.length]?=JS (.list acc))) (λzz zz zz zz zz=>rfl) (by rintro p x ys acc zk hp hd⟨j,hl,hc⟩;obtain⟨n,bZ,e,f,_⟩:=m7 (L:=st 66 (.str x) [(3,.ref D.w),(0,.str s),(21,.bool ic),(4,.ref zv.length),(11,pV)]) (x:=3) j.r (p3 x (J5 hp)) rfl (zx (x:=66) rfl);obtain wb:=f.k.2 _ _ hc PK;obtain yN:=(J9.mp hp).1;refine⟨_,zk,rfl,.inr ⟨bZ,_,.inl ⟨rfl,rfl⟩,e,wb,xN (by lia),(j.fx f).wr R (by lia) (λz=>absurd z (by lia)) (λzz=>⟨rfl,_,wb⟩),by rw[JO];exact Ik hl,get_set wb⟩⟩) mx.length 0 mx [] (r9++[.list []]) rfl rfl ⟨jg,JK _,zA⟩;obtain e7:=sj (t:=.tup (mx.map V.str)) rfl rfl rfl (it:=(.zl (.zu 133) 49 (.cons (.loc 0) (.cons (.tup .nil) .nil)))) (zt:=r9) (yo (yp rfl) (YT j5.r.c1) (zp (zx (x:=0) rfl) (zp (x_ zf rfl) zf)) (h3▸lC (.inr j5.r.c1))) rfl (by rw[JN];exact k);obtain⟨bY,x7,j6⟩:∃zk,X1 ⟨b,JT,JT,d+3⟩ [(3,.ref D.w),(0,.str s),(21,.bool ic),(4,.ref zv.length),(11,pV)] (.zC (.loc 4) 80 (.comp (.zl (.loc 3) 38 (.cons (.loc 66) .nil)) [66] .plain (.zl (.zu 133) 49 (.cons (.loc 0) (.cons (.tup .nil) .nil))) .nil)) r9 (.ok .next [(3,.ref D.w),(0,.str s),(21,.bool ic),(4,.ref zv.length),(11,pV)] zk)/\vA D J zv.length s (st 80 (.ref r9.length) fs) zk:=⟨_,rE rfl e7 (zx rfl) k1.o rfl (by subst jI;rfl),k1.wr R le (λzz=>⟨rfl,by subst jI;rfl,by subst jI;rfl,by subst jI;rfl⟩) λh=>absurd rfl h⟩;obtain⟨Jh,main',pT,_⟩:=j6.r.wo;obtain vJ:Call ⟨b,JT,JT,d+3⟩ (.fn 713) [.ref D.w,.str s] bY (.ok .none bY):=vK rfl rfl (zr (zO (uP (zZ (yh (zx rfl) zV (u9 nc)) (zM (zx rfl) pT rfl rfl) (mH j6.r.n0).1) (uO (zZ (yh (zx rfl) zV (u9 nc)) (zM (zx rfl) pT rfl rfl) (mH j6.r.n1).1))) zj) zj);obtain⟨NV,m1,m2,m3⟩:=j6.m;refine⟨zv.length,bY,zI rfl rfl (zr x0 (zr x1 (zr x2 (zr x3 (zr x4 (zr x5 (zr x6 (zr x7 (zr (ye (zM (zx rfl) pT rfl rfl) (zr (yJ (yo (zx rfl) (xS pT rfl rfl) (zp (zx rfl) zf) vJ)) zj)) (zT (zL (zx rfl)))))))))))),⟨j6.r,j6.b,λtJ h=>⟨NV,m1,m3 tJ h⟩⟩,_,j6.o,j6.l⟩
end
section
variable{b:Bc}{d:Nat}{q:Bool}{J zt zb zy:St}{D:Dt}{i:Nat}{k:List Nat}
theorem cj{j:Nat}(hj:j<5)(R:RI J D):Call ⟨b,JT,JT,d+1⟩ (.fn 701) [.ref D.w,.str (wK j)] J (.ok (.ref (D.ad j)) J):=by obtain⟨md,h1,h2⟩:=R.md;obtain⟨num,main,hw,_⟩:=R.wo;obtain h0:E ⟨b,JT,JT,d⟩ [(3,.ref D.w),(0,.str (wK j))] (.zl (.attr (.loc 3) 76) 49 (.cons (.loc 0) .nil)) J (.ok ((zG (wK j) md).getD .none) J):=yo (zM (zx rfl) hw rfl rfl) (tQ h1) (zp (zx rfl) zf) (qe (.inl h1));rw[h2.j j hj]at h0;exact zI rfl rfl (zr (yu h0) (zT (zL (wt (zZ (zx rfl) zQ (yX rfl)) (zx rfl)))))
theorem p6{j:Nat}(hj:j<5):tX b (d+1) D (wK j):=λzv R=>by
 obtain this:∀j<5,¬wK j∈u0:=by decide+kernel
 exact⟨D.ad j,zv,cj hj R,.of R .rfl,λh=>absurd h (this j hj)⟩
theorem kb{s:List Nat}(hs:s∈u0)(hm:∀zv,RI zv D->(∀md,zv[D.w+2]?=JS (.dict md)->zG s md=none)->X2 λn zk=>C3 (Call ⟨b,JT,JT,d+4⟩ (.fn 706) [.ref D.w,.str s] zv (.ok (.ref n) zk)) (Fx D zv zk) (xd zk n s)):tX b (d+5) D s:=λzv R=>by
 obtain⟨md,h1,h2⟩:=R.md;obtain⟨num,main,hw,_⟩:=R.wo;obtain h0:E ⟨b,JT,JT,d+4⟩ [(3,.ref D.w),(0,.str s)] (.zl (.attr (.loc 3) 76) 49 (.cons (.loc 0) .nil)) zv (.ok ((zG s md).getD .none) zv):=yo (zM (zx rfl) hw rfl rfl) (tQ h1) (zp (zx rfl) zf) (qe (.inl h1));cases hd:zG s md with
 |some v=>obtain⟨n,rfl,he⟩:=h2.e s hs v hd;rw[hd]at h0;exact⟨n,zv,zI rfl rfl (zr (yu h0) (zT (zL (wt (zZ (zx rfl) zQ (yX rfl)) (zx rfl))))),.of R .rfl,λzz=>he⟩
 |none=>
  rw[hd]at h0;obtain⟨n,zk,c,f,e⟩:=hm zv R λpF h=>by replace h:=yc h1 h;cases h;exact hd
  exact⟨n,zk,zI rfl rfl (zr (yu h0) (zT (zL (wq (zZ (zx rfl) zQ (yX rfl)) (yo (zx rfl) (xS hw rfl rfl) (zp (zx rfl) zf) c))))),f,λzz=>e⟩
theorem SV:tX b (d+5) D [67,111,109,112,97,114,97,98,108,101]:=kb (by decide) λzv R h=>ka (ic:=JT) (pa:=none) (mx:=[]) R (by decide) rfl rfl rfl (by decide) rfl h nofun (p6 (j:=3) (by decide)) nofun
theorem SU:tX b (d+5) D [69,120,99,101,112,116,105,111,110]:=kb (by decide) λzv R h=>ka (ic:=JQ) (pa:=JS [79,98,106,101,99,116]) (mx:=[]) R (by decide) rfl rfl rfl (by decide) rfl h (λp e=>by cases e;exact p6 (j:=2) (by decide)) (p6 (j:=4) (by decide)) nofun
theorem SQ:tX b (d+7) D [83,116,114,105,110,103]:=kb (by decide) λzv R h=>ka (ic:=JQ) (pa:=JS [79,98,106,101,99,116]) (mx:=[[67,111,109,112,97,114,97,98,108,101]]) R (by decide) rfl rfl rfl (by decide) rfl h (λp e=>by cases e;exact p6 (j:=2) (by decide)) (p6 (j:=4) (by decide)) λp e=>by rw[JP.mp e];exact SV
theorem SS:tX b (d+7) D [83,116,97,110,100,97,114,100,69,114,114,111,114]:=kb (by decide) λzv R h=>ka (ic:=JQ) (pa:=JS [69,120,99,101,112,116,105,111,110]) (mx:=[]) R (by decide) rfl rfl rfl (by decide) rfl h (λp e=>by cases e;exact SU) (p6 (j:=4) (by decide)) nofun
theorem SP{s:List Nat}(hs:s=[65,114,103,117,109,101,110,116,69,114,114,111,114]\/s=[78,97,109,101,69,114,114,111,114]\/s=[84,121,112,101,69,114,114,111,114]):tX b (d+9) D s:=by
 obtain this:C5 (s∈u0) (mods.any (zR s)=JT) (zG s oN=JS (.str [83,116,97,110,100,97,114,100,69,114,114,111,114])) ((zG s nJ).getD (.tup [])=.tup []) (short (s++[46])=JQ):=by rcases hs with rfl|rfl|rfl<;>exact⟨by decide,rfl,rfl,rfl,rfl⟩
 obtain⟨h1,h2,h3,h4,h5⟩:=this;exact kb h1 λzv R h=>ka (ic:=JQ) (pa:=JS [83,116,97,110,100,97,114,100,69,114,114,111,114]) (mx:=[]) R h1 h2 h3 h4 (by decide) h5 h (λp e=>by cases e;exact SS) (p6 (j:=4) (by decide)) nofun
theorem Yn{L:Loc}{x:Nat}(R:RI J D)(hx:lk x L=JS (.ref D.w)):X2 λ(i:Int)(zy:St)=>E ⟨b,JT,JT,d+1⟩ L (.zl (.loc x) 17 .nil) J (.ok (.int i) zy)/\Fx D J zy:=by obtain⟨num,main,hw,hn⟩:=R.wo;exact⟨_,_,yo (zx hx) (xS hw rfl rfl) zf (cZ hw),YJ R hw hn⟩
theorem cq{o p:O}:Gr J (J++[o,p]):=⟨by rw[JO];exact Hy _ _,λr hr=>Hu hr⟩
theorem MA{s:List Nat}(R:RI J D):X2 λn zy=>Call ⟨b,JT,JT,d+8⟩ (.fn 763) [.ref D.w,.str s] J (.ok (.ref n) zy)/\Fx D J zy:=by obtain⟨i,zt,e1,f1⟩:=Yn (b:=b) (d:=d+6) (L:=[(3,.ref D.w),(62,.str s)]) (x:=3) R rfl;obtain⟨n,zb,e2,f2,_⟩:=m7 (L:=[(3,.ref D.w),(62,.str s)]) (x:=3) f1.r (SQ (b:=b) (d:=d)) rfl zV;exact⟨_,_,zI rfl rfl (zT (zL (xq rfl e1 e2 (zx rfl) M9))),(f1.tr f2).tr (.of f2.r cq)⟩
noncomputable def bX(J:St)(t:Nat)(s:List Nat):Prop:=X2 λfs o=>C3 (J[t]?=JS (.inst 181 fs)) (lk 18 fs=JS (.ref o)) (xd J o s)
theorem Mb{s m:List Nat}(hs:s=[65,114,103,117,109,101,110,116,69,114,114,111,114]\/s=[78,97,109,101,69,114,114,111,114]\/s=[84,121,112,101,69,114,114,111,114])(R:RI J D):X2 λn zy=>C3 (Call ⟨b,JT,JT,d+10⟩ (.fn 826) [.ref D.w,.str s,.str m] J (.ok (.ref n) zy)) (Fx D J zy) (bX zy n s):=by
 obtain⟨i,zt,e1,f1⟩:=Yn (b:=b) (d:=d+8) (L:=[(3,.ref D.w),(0,.str s),(59,.str m)]) (x:=3) R rfl;obtain⟨n,zb,e2,f2,g⟩:=m7 (L:=[(3,.ref D.w),(0,.str s),(59,.str m)]) (x:=3) f1.r (SP (b:=b) (d:=d) hs) rfl (zx (x:=0) rfl);obtain⟨num,main,hw,_⟩:=f2.r.wo;obtain⟨t,yO,c3,f3⟩:=MA (b:=b) (d:=d+1) (s:=m) f2.r;have sU:s∈u0:=by rcases hs with rfl|rfl|rfl<;>decide
 obtain g:=(g sU).bt f3.k λfs h=>f2.r.pC h;refine⟨_,_,zI rfl rfl (zT (zL (xq rfl e1 e2 (yo (zx rfl) (xS hw rfl rfl) (zp (zx rfl) zf) c3) Mc))),((f1.tr f2).tr f3).tr (.of f3.r cq),_,n,fJ,rfl,g.kp (.of cq)⟩
end
noncomputable def Lo(D:Dt)(J zy:St):Prop:=J.length<=zy.length/\∀(r:Nat)(o:O),r+2<D.w->pC o=JQ->J[r]?=JS o->zy[r]?=JS o
noncomputable def gj(J:St)(n:Nat)(s:List Nat):Prop:=X2 λfs t=>C3 (J[n]?=JS (.exc 629 JQ fs)) (lk 36 fs=JS (.ref t)) (bX J t s)
section
variable{b:Bc}{d:Nat}{q:Bool}{J zt zb zy:St}{D D':Dt}{i:Nat}{k:List Nat}{L:Loc}
theorem Lo.tr(a:Lo D J zt)(c:Lo D' zt zy)(e:D'.w=D.w):Lo D J zy:=⟨J4 a.1 c.1,λr o h n e'=>c.2 r o (by rw[e];exact h) n (a.2 r o h n e')⟩
theorem Kp.lo(a:Kp J zy):Lo D J zy:=⟨a.1,λzz zz zz n e=>a.get e n⟩
theorem Bt.lo{rs:List Nat}(a:Bt rs J zy)(h:∀r∈rs,D.w<=r+2):Lo D J zy:=⟨a.1,λr o l zz e=>a.2 r o e λm=>by obtain this:=h r m;lia⟩
theorem Fx.lo(a:Fx D J zy):Lo D J zy:=a.k.lo λr m=>by
 rcases JJ.mp m with z|z;.lia
 .rw[JP.mp z];lia
structure vC(D:Dt)(s:List Nat)(J:St)(n:Nat)(zy:St):Prop where
 r:RI zy D
 lo:Lo D J zy
 e:gj zy n s
theorem vC.pre{s:List Nat}{n:Nat}(a:Lo D J zt)(c:vC D s zt n zy):vC D s J n zy:=⟨c.r,a.tr c.lo rfl,c.e⟩
theorem cJ{o o':O}:(J++[o]).set J.length o'=J++[o']:=VZ
theorem M_{c:Nat}{s:List Nat}(h:xi c 71=JQ):Call ⟨b,JT,JT,d+1⟩ (.fn 606) [.ref J.length,.str s] (J++[.exc c JT []]) (.ok .none (J++[.exc c JT [(71,.str s)]])):=by obtain this:=Uh (F:=⟨b,JT,JT,d⟩) (L:=[(3,.ref J.length),(71,.str s)]) rfl (zx (x:=71) rfl) (zx (x:=3) rfl) (zA (J:=J) (o:=.exc c JT [])) h rfl;rw[cJ]at this;exact vK rfl rfl (zr (yJ (yo (yp rfl) Qw (zp (zx rfl) (zp (zx rfl) zf)) (Ry rfl zA))) (zr this zj))
theorem MF{v:V}:Call ⟨b,JT,JT,d+3⟩ (.cl 629) [v] J (.ok (.ref J.length) (J++[.exc 629 JT [(71,.str [97,32,82,117,98,121,32,101,114,114,111,114]),(36,v)]])):=by obtain this:=Uh (F:=⟨b,JT,JT,d+1⟩) (L:=[(3,.ref J.length),(36,v)]) rfl (zx (x:=36) rfl) (zx (x:=3) rfl) (zA (J:=J) (o:=.exc 629 JT [(71,.str [97,32,82,117,98,121,32,101,114,114,111,114])])) (x:=36) rfl rfl;rw[cJ]at this;exact SH (fi:=626) rfl rfl (show 1<=1000 by decide) (mE (fd:=gC) (F:=⟨b,JT,JT,d+2⟩) rfl rfl rfl rfl (zr (yJ (yo (yp rfl) (fP rfl) (zp (zx rfl) (zp zV zf)) (M_ rfl))) (zr this zj)))
theorem iL{s m:List Nat}(hs:s=[65,114,103,117,109,101,110,116,69,114,114,111,114]\/s=[78,97,109,101,69,114,114,111,114]\/s=[84,121,112,101,69,114,114,111,114])(R:RI J D):X2 λn zy=>Call ⟨b,JT,JT,d+11⟩ (.fn 833) [.ref D.w,.str s,.str m] J (.exc (.ref n) zy)/\vC D s J n zy:=by obtain⟨num,main,hw,_⟩:=R.wo;obtain⟨t,zt,c,f,fs,o,h1,h2,h3⟩:=Mb (b:=b) (d:=d) (m:=m) hs R;obtain hx:=x_raise (F:=⟨b,JT,JT,d+10⟩) (L:=[(3,.ref D.w),(0,.str s),(59,.str m)]) rfl (yC (g:=139) (x:=.zl (.loc 3) 136 (.cons (.loc 0) (.cons (.loc 59) .nil))) rfl (yo (zx rfl) (xS hw rfl rfl) (zp (zx rfl) (zp (zx rfl) zf)) c) MF) zA;rw[cJ]at hx;refine⟨_,_,tu rfl rfl (vn hx),f.r.gr (Gr.push _),f.lo.tr (Kp.of (Gr.push _)).lo rfl,_,t,zA,rfl,fs,o,(Gr.push _).get h1,h2,h3.kp (.of (Gr.push _))⟩
theorem iH(R:RI J D)(hi:D.on i=JQ)(hm:i<18):Call ⟨b,JT,JT,d+1⟩ (.fn 467) [.ref D.w,.ref (D.ad i)] J (.ok .none J):=by obtain⟨_,_,_,h1,_⟩:=R.oo i hi hm;exact vK rfl rfl (zr (zO (zM (zx rfl) h1 rfl rfl) zj) zj)
theorem MX(R:RI J D)(hi:D.on i=JQ)(hm:i<18):Call ⟨b,JT,JT,d+1⟩ (.fn 495) [.ref (D.ad i)] J (.ok (.str (if yf i then[99,108,97,115,115]else[109,111,100,117,108,101])) J):=by obtain⟨_,_,_,h1,_⟩:=R.oo i hi hm;obtain h0:=zM (F:=⟨b,JT,JT,d⟩) (L:=[(2,.ref (D.ad i))]) (zx (x:=2) rfl) h1 (x:=21) (v:=.bool (yf i)) rfl rfl;cases hc:yf i with|true=>rw[hc]at h0;exact zI rfl rfl (zT (zL (wq h0 zV)))|false=>rw[hc]at h0;exact zI rfl rfl (zT (zL (wt h0 zV)))
theorem kZ{num:Int}{main:V}(hw:J[D.w]?=JS (.inst 899 (wf D.w num D.zE main))):Call ⟨b,JT,JT,d+1⟩ (.fn 460) [.ref D.w] J (.ok .none (J.set D.w (.inst 899 (wf D.w num (D.zE+1) main)))):=vK rfl rfl (zr (bp rfl (zx rfl) hw rfl rfl yw hw rfl) zj)
end
noncomputable def Row.putL(r:Row)(c:Bool)(xs:List Nat):Row:=⟨λe=>if e=c then xs else r.li e,r.ms⟩
noncomputable def u_(T:Tb)(i:Nat)(r:Row):Tb:=λj=>if j=i then r else T j
noncomputable def Dt.up(D:Dt)(T:Tb):Dt:={D with zE:=D.zE+1,T:=T}
theorem uZ{T:Tb}{i:Nat}{r:Row}:u_ T i r i=r:=if_pos rfl
theorem uY{T:Tb}{i j:Nat}{r:Row}(h:j≠i):u_ T i r j=T j:=if_neg h
theorem WF.put{T:Tb}(w:WF T){i:Nat}{r:Row}(h1:∀c,r.li c∈vt c i)(h2:∀p∈r.ms,p.1∈yH∧wQ p.2)(h3:(r.ms.map (·.1)).Nodup):WF (u_ T i r):=by
 refine⟨fun j c=>?_,fun j=>?_,fun j=>?_⟩<;>by_cases q:j=i;·subst q;rw[uZ];exact h1 c
 ·rw[uY q];exact w.li j c
 ·subst q;rw[uZ];exact h2
 ·rw[uY q];exact w.ks j
 ·subst q;rw[uZ];exact h3
 ·rw[uY q];exact w.nd j
section
variable{b:Bc}{d:Nat}{q:Bool}{J zt zb zy:St}{D D':Dt}{i:Nat}{k:List Nat}{L:Loc}
theorem v9.up{T':Tb}(s:v9 D)(w:WF T')(u:∀i,D.on i=JT->T' i=D.T i):v9 (D.up T'):=⟨s.inj,s.lo,s.w2,s.kn,s.di,s.dk,s.li,s.pm,s.om,s.tm,s.bd,λi h=>by show _/\_;rw[show(D.up T').T i=D.T i from u i h];exact s.un i h,s.a7,w⟩
theorem RI.turn(R:RI J D){T':Tb}{x:Nat}{WD:O}{num:Int}{main:V}(k:Bt [D.w,x] J zy)(hx:J[x]?=JS WD)(hk:Io WD.ctorIdx 2=JQ)(x1:D.w+5<=x)(x2:x≠D.kn)(wo:zy[D.w]?=JS (.inst 899 (wf D.w num (D.zE+1) main)))(hn:∀i,D.on i=JQ->D.nu i<=num)(mm:∀i,D.on i=JQ->i<18->zy[D.da i]?=JS (.dict (yF tn (T' i).ms)))(ee:∀i,D.on i=JQ->i<18->∀p∈(T' i).ms,zy[p.2.e]?=JS (.inst 256 (D.wm p.2))/\D.on p.2.o=JQ)(ll:∀i c,D.on i=JQ->i<18->zy[D.la c i]?=JS (.list (rf D.ad ((T' i).li c))))(w:WF T')(u:∀i,D.on i=JT->T' i=D.T i):RI zy (D.up T'):=by
 obtain⟨n0,m0,hw,_⟩:=R.wo;obtain w2:=R.s.w2;obtain wk:=R.s.kn;obtain nn:∀{r:Nat},r≠D.w->r≠x->r∉[D.w,x]:=λh1 h2 m=>by
  rcases JJ.mp m with z|z;.exact h1 z
  .exact h2 (JP.mp z)
 have ni:∀{r:Nat}{c:Nat}{fs:Loc},J[r]?=JS (.inst c fs)->c≠899->r∉[D.w,x]:=λh hc=>nn (λe=>by rw[e,hw]at h;cases h;exact hc rfl) λe=>by rw[e,hx]at h;cases h;cases hk
 obtain⟨md,h1,h2⟩:=R.md;refine⟨⟨num,main,wo,hn⟩,⟨md,k.2 _ _ h1 (nn (show D.w+2≠D.w by lia) (show D.w+2≠x by lia)),(h2.to λn s=>xd.bt k λzz h=>ni h (by decide)).j,(h2.to λn s=>xd.bt k λzz h=>ni h (by decide)).e,h2.nd,h2.ks⟩,k.2 _ _ R.c0 (nn (by lia) (by lia)),k.2 _ _ R.c1 (nn (by lia) (by lia)),k.2 _ _ R.n0 (nn (show D.w-2≠D.w by lia) (show D.w-2≠x by lia)),k.2 _ _ R.n1 (nn (show D.w-1≠D.w by lia) (show D.w-1≠x by lia)),k.2 _ _ R.kn (nn (show D.kn≠D.w by lia) (Hk x2)),λi hi h=>?_,mm,ee,ll,λi hi h=>?_,R.s.up w u⟩;.obtain⟨kp,a1,a3,h1,h2⟩:=R.oo i hi h;refine⟨kp,a1,a3,k.2 _ _ h1 (ni h1 (by decide)),h2.imp id λ⟨v,l,e1,e2,e3⟩=>⟨v,l,e1,Fq e2 (show D.zE<=D.zE+1 by lia),λz=>absurd (show v=D.zE+1 from z) (by lia)⟩⟩
 .obtain⟨a,h1⟩:=R.th i hi h;exact⟨a,k.2 _ _ h1 (ni h1 (by decide))⟩
theorem RI.V5(R:RI J D){num:Int}{main:V}{ms:List (List Nat×z7)}(hi:D.on i=JQ)(hm:i<18)(hw:J[D.w]?=JS (.inst 899 (wf D.w num D.zE main)))(hn:∀i,D.on i=JQ→D.nu i≤num)(h1:∀p∈ms,(p.1∈yH∧wQ p.2)∧(J[p.2.e]?=JS (.inst 256 (D.wm p.2))∧D.on p.2.o=JQ))(h2:(ms.map (·.1)).Nodup):RI ((J.set (D.da i) (.dict (yF tn ms))).set D.w (.inst 899 (wf D.w num (D.zE+1) main))) (D.up (u_ D.T i ⟨(D.T i).li,ms⟩))∧Lo D J ((J.set (D.da i) (.dict (yF tn ms))).set D.w (.inst 899 (wf D.w num (D.zE+1) main))):=by
 obtain⟨lo,Ny,Jj⟩:=R.s.lo i hi;have hd:=R.mm i hi hm;have k:Bt [D.w,D.da i] J ((J.set (D.da i) (.dict (yF tn ms))).set D.w (.inst 899 (wf D.w num (D.zE+1) main))):=(Bt.re.set _ (.inl (.tail _ (.head _)))).set _ (.inl (.head _));have en:∀{r:Nat}{fs:Loc},J[r]?=JS (.inst 256 fs)→r∉[D.w,D.da i]:=fun h m=>by
  rcases JJ.mp m with z|z;·rw[z,hw]at h;cases h
  ·rw[JP.mp z,hd]at h;cases h
 refine⟨R.turn k hd rfl Ny (R.s.dk i hi hm) (get_set (zK hw (by lia))) hn (fun j hj vX=>?_) (fun j hj vX p hp=>?_) (fun j c hj vX=>?_) (R.s.wf.put (fun c=>R.s.wf.li i c) (fun p hp=>(h1 p hp).1) h2) fun j hj=>uY fun e=>(by rw[e,hi]at hj;cases hj),k.lo fun r m=>?_⟩
 ·by_cases e:j=i;·subst e;rw[uZ];exact zK (get_set hd) (by lia)
  ·rw[uY e];exact k.2 _ _ (R.mm j hj vX) fun m=>by
    rcases JJ.mp m with z|z;·obtain this:=(R.s.lo j hj).2;lia
    ·exact e (R.s.di j i hj hi vX hm (JP.mp z))
 ·by_cases e:j=i;·subst e;rw[uZ]at hp;obtain⟨_,e1,e2⟩:=h1 p hp;exact⟨k.2 _ _ e1 (en e1),e2⟩
  ·rw[uY e]at hp;obtain⟨e1,e2⟩:=R.ee j hj vX p hp;exact⟨k.2 _ _ e1 (en e1),e2⟩
 ·obtain e:(u_ D.T i ⟨(D.T i).li,ms⟩ j).li c=(D.T j).li c:=by
   by_cases e:j=i;·subst e;rw[uZ]
   ·rw[uY e]
  rw[e];exact k.2 _ _ (R.ll j c hj vX) fun m=>by
   obtain hl:=R.ll j c hj vX;rcases JJ.mp m with z|z;·rw[z,hw]at hl;cases hl
   ·rw[JP.mp z,hd]at hl;cases hl
 ·rcases JJ.mp m with z|z;·lia
  ·rw[JP.mp z];lia
theorem RI.L8(R:RI J D){num:Int}{main:V}{c:Bool}{xs:List Nat}(hi:D.on i=JQ)(hm:i<18)(hw:J[D.w]?=JS (.inst 899 (wf D.w num D.zE main)))(hn:∀i,D.on i=JQ->D.nu i<=num)(hx:xs∈vt c i):RI ((J.set (D.la c i) (.list (rf D.ad xs))).set D.w (.inst 899 (wf D.w num (D.zE+1) main))) (D.up (u_ D.T i ((D.T i).putL c xs)))/\Lo D J ((J.set (D.la c i) (.list (rf D.ad xs))).set D.w (.inst 899 (wf D.w num (D.zE+1) main))):=by
 have lo:=(R.s.lo i hi).3 c;have hd:=R.ll i c hi hm;have k:Bt [D.w,D.la c i] J ((J.set (D.la c i) (.list (rf D.ad xs))).set D.w (.inst 899 (wf D.w num (D.zE+1) main))):=(Bt.re.set _ (.inl (.tail _ (.head _)))).set _ (.inl (.head _));have nl:∀{r:Nat}{o:O},J[r]?=JS o->JG o.ctorIdx 0=JT->r≠D.w->r∉[D.w,D.la c i]:=λh hk hr m=>by
  rcases JJ.mp m with z|z;.exact hr z
  .rw[JP.mp z,hd]at h;cases h;cases hk
 have ms:∀j,(u_ D.T i ((D.T i).putL c xs) j).ms=(D.T j).ms:=λj=>by
  by_cases e:j=i;.subst e;rw[uZ];rfl
  .rw[uY e]
 refine⟨R.turn k hd rfl lo (λe=>by obtain this:=R.kn;rw[<-e,hd]at this;cases this) (get_set (zK hw (by lia))) hn (λj hj vX=>?_) (λj hj vX p hp=>?_) (λj e hj vX=>?_) (R.s.wf.put (λe=>?_) (R.s.wf.ks i) (R.s.wf.nd i)) λj hj=>uY λe=>(by rw[e,hi]at hj;cases hj),k.lo λr m=>?_⟩;.rw[ms];exact k.2 _ _ (R.mm j hj vX) (nl (R.mm j hj vX) rfl (by obtain this:=(R.s.lo j hj).2;lia))
 .rw[ms]at hp;obtain⟨e1,e2⟩:=R.ee j hj vX p hp;exact⟨k.2 _ _ e1 (nl e1 rfl λe=>by rw[e,hw]at e1;cases e1),e2⟩
 .by_cases q:D.la e j=D.la c i;.obtain⟨q1,q2⟩:=R.s.li j i e c hj hi vX hm q;subst q1 q2;rw[uZ,show((D.T j).putL e xs).li e=xs from if_pos rfl];exact zK (get_set hd) (by lia)
  .have q':(u_ D.T i ((D.T i).putL c xs) j).li e=(D.T j).li e:=by
    by_cases e':j=i;.subst e';rw[uZ];exact if_neg λz=>q (by rw[z])
    .rw[uY e']
   rw[q'];exact k.2 _ _ (R.ll j e hj vX) λm=>by
    rcases JJ.mp m with z|z;.obtain this:=(R.s.lo j hj).3 e;lia
    .exact q (JP.mp z)
 .by_cases q:e=c;.subst q;rw[show((D.T i).putL e xs).li e=xs from if_pos rfl];exact hx
  .rw[show((D.T i).putL c xs).li e=(D.T i).li e from if_neg q];exact R.s.wf.li i e
 .rcases JJ.mp m with z|z;.lia
  .rw[JP.mp z];lia
end
noncomputable def vV(T:Tb)(i:Nat)(k:List Nat):Option z7:=match zJ T k (ln T i)with|JS h=>JS h|none=>if yf i then none else zJ T k (ln T 2)
noncomputable def w9(T:Tb)(i:Nat)(ms:List (List Nat×z7)):Tb:=u_ T i ⟨(T i).li,ms⟩
section
variable{b:Bc}{d:Nat}{q:Bool}{J zt zb zy:St}{D D':Dt}{i:Nat}{k:List Nat}{L:Loc}
structure Good(D:Dt)(T':Tb)(J zy:St):Prop where
 r:RI zy (D.up T')
 lo:Lo D J zy
theorem Good.pre{T':Tb}(a:Lo D J zt)(g:Good D T' zt zy):Good D T' J zy:=⟨g.r,a.tr g.lo rfl⟩
theorem iq(hk:k∈yH):k.length<=1/\plainS k=JQ:=by
 obtain h1:∀k∈yH,k.length<=1/\plainS k=JQ:=by decide+kernel
 exact h1 k hk
theorem YQ(hm:i<18):(uf i).length<=100:=by
 obtain h1:∀i<18,(uf i).length<=100:=by decide+kernel
 exact h1 i hm
theorem rn{F:Fr}{a c:List Nat}{n m:Nat}(h1:a.length<=n)(h2:c.length<=m)(h:n+m<=1000):ur F .add (.str a) (.str c) J (.ok (.str (a++c)) J):=u9 (xN (by rw[JO];lia))
theorem len_app{a c:List Nat}{n m:Nat}(h1:a.length<=n)(h2:c.length<=m):(a++c).length<=n+m:=by rw[JO];lia
theorem c_(R:RI J D)(hi:D.on i=JQ)(hm:i<18)(wF:∀j,yT i=JS j->D.on j=JQ)(hk:k∈yH):match vV D.T i k with|JS h=>∃zy,C5 (Call ⟨b,JT,JT,d+22⟩ (.fn 502) [.ref D.w,.ref (D.ad i),.str k] J (.ok (.ref h.e) zy)) (Ask D J zy) (zy[h.e]?=JS (.inst 256 (D.wm h))) (D.on h.o=JQ) (wQ h)|none=>X2 λn zy=>Call ⟨b,JT,JT,d+22⟩ (.fn 502) [.ref D.w,.ref (D.ad i),.str k] J (.exc (.ref n) zy)/\vC D [78,97,109,101,69,114,114,111,114] J n zy:=by
 obtain⟨zt,c1,a1⟩:=iK (b:=b) (d:=d) (k:=k) R hi hm;have x0:=yu (F:=⟨b,JT,JT,d+21⟩) (L:=[(1,.ref D.w),(2,.ref (D.ad i)),(0,.str k)]) (x:=4) (xq (g:=84) (x:=.loc 1) (y:=.loc 2) (z:=.loc 0) rfl (zx rfl) (zx rfl) (zx rfl) c1);obtain⟨kp,a,a3,h1,_⟩:=a1.r.oo i hi hm;have bad:∀{L:Loc}{zv:St},RI zv D->lk 1 L=JS (.ref D.w)->lk 2 L=JS (.ref (D.ad i))->lk 0 L=JS (.str k)->lk 4 L=JS .none->X2 λn zk=>XB ⟨b,JT,JT,d+21⟩ L (.cons (.cond (.cmp .is (.loc 4) .none) (.cons (.expr (.zl (.loc 1) 57 (.cons (.str [78,97,109,101,69,114,114,111,114]) (.cons (.bin .add (.bin .add (.bin .add (.bin .add (.bin .add (.bin .add (.str [117,110,100,101,102,105,110,101,100,32,109,101,116,104,111,100,32,39]) (.loc 0)) (.str [39,32,102,111,114,32])) (.call (.zu 148) (.cons (.loc 2) .nil))) (.str [32,39])) (.call (.zu 60) (.cons (.loc 2) .nil))) (.str [39])) .nil)))) .nil) .nil) (.cons (.ret (.loc 4)) .nil)) zv (.exc (.ref n) L zk)/\vC D [78,97,109,101,69,114,114,111,114] zv n zk:=λ{L zv}R l1 l2 l3 l4=>by
  obtain⟨num,main,hw,_⟩:=R.wo;obtain⟨q1,_⟩:=iq hk;have q2:=YQ hm;have q3:(if yf i=JQ then[99,108,97,115,115]else[109,111,100,117,108,101]).length<=6:=by split<;>decide
  have n1:([117,110,100,101,102,105,110,101,100,32,109,101,116,104,111,100,32,39]:List Nat).length<=20:=by decide
  obtain n2:([39,32,102,111,114,32]:List Nat).length<=20:=by decide
  obtain n3:([32,39]:List Nat).length<=20:=by decide
  obtain n4:([39]:List Nat).length<=20:=by decide
  obtain p1:=len_app n1 q1;obtain p2:=len_app p1 n2;obtain p3:=len_app p2 q3;obtain p4:=len_app p3 n3;obtain p5:=len_app p4 q2;obtain⟨n,zk,c,f⟩:=iL (b:=b) (d:=d+10) (s:=[78,97,109,101,69,114,114,111,114]) (m:=[117,110,100,101,102,105,110,101,100,32,109,101,116,104,111,100,32,39]++k++[39,32,102,111,114,32]++(if yf i then[99,108,97,115,115]else[109,111,100,117,108,101])++[32,39]++uf i++[39]) (.inr (.inl rfl)) R;refine⟨n,zk,vn (ye (zZ (zx l4) zQ (yX rfl)) (vn (rD (yo (zx l1) (xS hw rfl rfl) (zp zV (zp ?_ zf)) c)))),f⟩;exact yh (yh (yh (yh (yh (yh zV (zx l3) (rn n1 q1 (by decide))) zV (rn p1 n2 (by decide))) (yC rfl (zx l2) (MX R hi hm)) (rn p2 q3 (by decide))) zV (rn p3 n3 (by decide))) (yC rfl (zx l2) (cf R hi hm wF)) (rn p4 q2 (by decide))) zV (rn p5 n4 (by decide))
 unfold vV;cases hf:zJ D.T k (ln D.T i)with|some h=>rw[hf]at x0;obtain⟨e1,e2,e3,_⟩:=a1.r.ent (a1.r.tK hi hm).2 hf;exact⟨zt,zI rfl rfl (zr x0 (zr (zO (tR (zZ (zx rfl) zQ (yX rfl))) zj) (zr (zO (zZ (zx rfl) zQ (yX rfl)) zj) (zT (zL (zx rfl)))))),a1,e1,e2,e3⟩|none=>rw[hf]at x0;have hc:=w5 (F:=⟨b,JT,JT,d+21⟩) (L:=[(1,.ref D.w),(2,.ref (D.ad i)),(0,.str k),(4,.none)]) (zZ (zx (x:=4) rfl) zQ (yX rfl)) (uh (vM (zM (zx (x:=2) rfl) h1 (x:=21) (v:=.bool (yf i)) rfl rfl)));cases wM:yf i with|true=>rw[wM]at hc;obtain⟨n,zy,c,f⟩:=bad (L:=[(1,.ref D.w),(2,.ref (D.ad i)),(0,.str k),(4,.none)]) a1.r rfl rfl rfl rfl;exact⟨n,zy,tu rfl rfl (zr x0 (zr (zO hc zj) c)),f.pre a1.k.lo⟩|false=>rw[wM]at hc;obtain⟨num,main,hw,_⟩:=a1.r.wo;obtain o2:=R.s.om 2 (by decide) (by decide);obtain⟨zb,c2,a2⟩:=iK (b:=b) (d:=d) (k:=k) a1.r o2 (by decide);obtain x1:=ye (b:=.nil) hc (zr (yu (x:=4) (xq (g:=84) (x:=.loc 1) (y:=.zl (.loc 1) 38 (.cons (.str [79,98,106,101,99,116]) .nil)) (z:=.loc 0) rfl (zx rfl) (yo (zx rfl) (xS hw rfl rfl) (zp zV zf) (cj (j:=2) (by decide) a1.r)) (zx rfl) c2)) zj);cases r_:zJ D.T k (ln D.T 2)with|some h=>rw[r_]at x1;obtain⟨e1,e2,e3,_⟩:=a2.r.ent (a2.r.tK o2 (by decide)).2 r_;exact⟨zb,zI rfl rfl (zr x0 (zr x1 (zr (zO (zZ (zx rfl) zQ (yX rfl)) zj) (zT (zL (zx rfl)))))),a1.tr a2,e1,e2,e3⟩|none=>rw[r_]at x1;obtain⟨n,zy,c,f⟩:=bad (L:=[(1,.ref D.w),(2,.ref (D.ad i)),(0,.str k),(4,.none)]) a2.r rfl rfl rfl rfl;exact⟨n,zy,tu rfl rfl (zr x0 (zr x1 c)),f.pre (a1.tr a2).k.lo⟩
end
section
variable{b:Bc}{d:Nat}{q:Bool}{J zt zb zy:St}{D D':Dt}{i:Nat}{k:List Nat}{L:Loc}
theorem RI.lay(R:RI J D)(hi:D.on i=JQ)(hm:i<18)(hk:k∈yH){h:z7}(hh:wQ h)(he:J[h.e]?=JS (.inst 256 (D.wm h)))(ho:D.on h.o=JQ):X2 λnum main=>J[D.w]?=JS (.inst 899 (wf D.w num D.zE main))/\Good D (w9 D.T i (xB k h (D.T i).ms)) J ((J.set (D.da i) (.dict (yF tn (xB k h (D.T i).ms)))).set D.w (.inst 899 (wf D.w num (D.zE+1) main))):=by
 obtain⟨num,main,hw,hn⟩:=R.wo;obtain⟨g1,g2⟩:=R.V5 (ms:=xB k h (D.T i).ms) hi hm hw hn (λp hp=>by
  rcases jD hp with e|e;.exact⟨R.s.wf.ks i p e,R.ee i hi hm p e⟩
  .subst e;exact⟨⟨hk,hh⟩,he,ho⟩) (eK (R.s.wf.nd i));exact⟨num,main,hw,g1,g2⟩
theorem cV(R:RI J D)(hi:D.on i=JQ)(hm:i<18)(hk:k∈yH){h:z7}(hh:wQ h)(he:J[h.e]?=JS (.inst 256 (D.wm h)))(ho:D.on h.o=JQ):∃zy,C3 (Call ⟨b,JT,JT,d+2⟩ (.fn 488) [.ref D.w,.ref (D.ad i),.str k,.ref h.e] J (.ok .none zy)) (Good D (w9 D.T i (xB k h (D.T i).ms)) J zy) (∀(r:Nat)(xs:List V),J[r]?=JS (.list xs)->zy[r]?=JS (.list xs)):=by obtain⟨_,_,_,h1,_⟩:=R.oo i hi hm;obtain⟨num,main,hw,g⟩:=R.lay hi hm hk hh he ho;obtain hs:=ot (F:=⟨b,JT,JT,d+1⟩) (L:=[(1,.ref D.w),(2,.ref (D.ad i)),(0,.str k),(20,.ref h.e)]) rfl (zx (x:=20) rfl) (zM (x:=19) (zx (x:=2) rfl) h1 rfl rfl) (zx (x:=0) rfl) (R.mm i hi hm) (R.s.wf.short i);rw[show V.ref h.e=tn h from rfl,mC]at hs;exact⟨_,vK rfl rfl (zr (yJ (yY rfl (zx rfl) (zx rfl) (iH R hi hm))) (zr hs (zr (yJ (yC rfl (zx rfl) (kZ (zK hw (by obtain this:=(R.s.lo i hi).2;lia))))) zj))),g,λr xs h=>zK (zK h λe=>by obtain this:=R.mm i hi hm;rw[e,h]at this;cases this) λe=>by rw[e,h]at hw;cases hw⟩
theorem Md(R:RI J D)(hi:D.on i=JQ)(hm:i<18){h:z7}(hk:h.n∈yH)(hh:wQ h)(he:J[h.e]?=JS (.inst 256 (D.wm h)))(ho:D.on h.o=JQ):∃zy,Call ⟨b,JT,JT,d+2⟩ (.fn 481) [.ref D.w,.ref (D.ad i),.ref h.e] J (.ok .none zy)/\Good D (w9 D.T i (xB h.n h (D.T i).ms)) J zy:=by obtain⟨_,_,_,h1,_⟩:=R.oo i hi hm;obtain⟨num,main,hw,g⟩:=R.lay hi hm hk hh he ho;obtain hs:=ot (F:=⟨b,JT,JT,d+1⟩) (L:=[(1,.ref D.w),(2,.ref (D.ad i)),(20,.ref h.e)]) rfl (zx (x:=20) rfl) (zM (x:=19) (zx (x:=2) rfl) h1 rfl rfl) (zM (x:=0) (zx (x:=20) rfl) he rfl rfl) (R.mm i hi hm) (R.s.wf.short i);rw[show V.ref h.e=tn h from rfl,mC]at hs;exact⟨_,vK rfl rfl (zr (yJ (yY rfl (zx rfl) (zx rfl) (iH R hi hm))) (zr hs (zr (yJ (yC rfl (zx rfl) (kZ (zK hw (by obtain this:=(R.s.lo i hi).2;lia))))) zj))),g⟩
theorem M7(R:RI J D)(hi:D.on i=JQ)(hm:i<18)(wF:∀j,yT i=JS j->D.on j=JQ)(hk:k∈yH):match vV D.T i k with|JS h=>X2 λe zy=>Call ⟨b,JT,JT,d+23⟩ (.fn 509) [.ref D.w,.ref (D.ad i),.str k] J (.ok .none zy)/\Good D (w9 D.T i (xB k ⟨e,none,i,[112,117,98,108,105,99],k⟩ (D.T i).ms)) J zy|none=>X2 λn zy=>Call ⟨b,JT,JT,d+23⟩ (.fn 509) [.ref D.w,.ref (D.ad i),.str k] J (.exc (.ref n) zy)/\vC D [78,97,109,101,69,114,114,111,114] J n zy:=by obtain this:=c_ (b:=b) (d:=d) R hi hm wF hk;cases hn:vV D.T i k with|none=>rw[hn]at this;obtain⟨n,zy,c,f⟩:=this;exact⟨n,zy,tu rfl rfl (vn (rD (xq (g:=83) rfl (zx rfl) (zx rfl) (zx rfl) c))),f⟩|some h=>rw[hn]at this;obtain⟨zt,c,a,_⟩:=this;obtain a1:=a.push (.inst 256 (D.wm ⟨zt.length,none,i,[112,117,98,108,105,99],k⟩));obtain⟨zb,c2,g,_⟩:=cV (b:=b) (d:=d+20) (k:=k) (h:=⟨zt.length,none,i,[112,117,98,108,105,99],k⟩) a1.r hi hm hk ⟨.head _,hk,nofun,hm⟩ zA hi;exact⟨zt.length,zb,vK rfl rfl (zr (yJ (xq (g:=83) rfl (zx rfl) (zx rfl) (zx rfl) c)) (zr (yJ (y6 (yp rfl) (zp (zx rfl) (zp (zx rfl) (zp (zx rfl) (zp (y6 (yp rfl) (zp (zx rfl) (zp (zx rfl) (zp zV (zp zQ (zp zQ (zp zV zf)))))) cg) zf)))) c2)) zj)),g.pre a1.k.lo⟩
theorem W3{h:z7}{s:List Nat}(he:J[h.e]?=JS (.inst 256 (D.wm h))):Call ⟨b,JT,JT,d+4⟩ (.fn 523) [.ref h.e,.str s] J (.ok (.ref J.length) (J++[.inst 256 (D.wm ⟨J.length,h.b,h.o,s,h.n⟩)])):=zI rfl rfl (zT (zL (yo (zx rfl) (xS he rfl rfl) (zp (zM (zx rfl) he rfl rfl) (zp (zM (zx rfl) he rfl rfl) (zp (zx rfl) zf))) (MM he))))
theorem Mf{k':List Nat}(R:RI J D)(hi:D.on i=JQ)(hm:i<18)(wF:∀j,yT i=JS j->D.on j=JQ)(hk:k∈yH)(wh:k'∈yH):match vV D.T i k with|JS h=>X2 λe zy=>Call ⟨b,JT,JT,d+23⟩ (.fn 530) [.ref D.w,.ref (D.ad i),.str k',.str k] J (.ok .none zy)/\Good D (w9 D.T i (xB k' ⟨e,h.b,h.o,h.s,h.n⟩ (D.T i).ms)) J zy|none=>X2 λn zy=>Call ⟨b,JT,JT,d+23⟩ (.fn 530) [.ref D.w,.ref (D.ad i),.str k',.str k] J (.exc (.ref n) zy)/\vC D [78,97,109,101,69,114,114,111,114] J n zy:=by obtain this:=c_ (b:=b) (d:=d) R hi hm wF hk;cases hn:vV D.T i k with|none=>rw[hn]at this;obtain⟨n,zy,c,f⟩:=this;exact⟨n,zy,tu rfl rfl (vn (Ue (xq (g:=83) rfl (zx rfl) (zx rfl) (zx rfl) c))),f⟩|some h=>rw[hn]at this;obtain⟨zt,c,a,he,ho,hh⟩:=this;obtain a1:=a.push (.inst 256 (D.wm ⟨zt.length,h.b,h.o,h.s,h.n⟩));obtain⟨zb,c2,g,_⟩:=cV (b:=b) (d:=d+20) (k:=k') (h:=⟨zt.length,h.b,h.o,h.s,h.n⟩) a1.r hi hm wh ⟨hh.s,hh.n,hh.b,hh.o⟩ zA ho;exact⟨zt.length,zb,vK rfl rfl (zr (yu (xq (g:=83) rfl (zx rfl) (zx rfl) (zx rfl) c)) (zr (yJ (y6 (yp rfl) (zp (zx rfl) (zp (zx rfl) (zp (zx rfl) (zp (yY rfl (zx rfl) (zM (zx rfl) he rfl rfl) (W3 he)) zf)))) c2)) zj)),g.pre a1.k.lo⟩
theorem Oe(o:Option z7):isNone (vj o)=JS o.isNone:=by cases o<;>rfl
theorem MB{s:List Nat}{l:Nat}(R:RI J D)(hi:D.on i=JQ)(hm:i<18)(wF:∀j,yT i=JS j->D.on j=JQ)(hk:k∈yH)(hs:s∈vd)(hl:J[l]?=JS (.list [.str k])):match vV D.T i k with|JS h=>if(!zR s h.s||(y_ k (D.T i).ms).isNone)=JQ then X2 λe zy=>Call ⟨b,JT,JT,d+23⟩ (.fn 537) [.ref D.w,.ref (D.ad i),.ref l,.str s] J (.ok .none zy)/\Good D (w9 D.T i (xB k ⟨e,h.b,h.o,s,h.n⟩ (D.T i).ms)) J zy else∃zy,Call ⟨b,JT,JT,d+23⟩ (.fn 537) [.ref D.w,.ref (D.ad i),.ref l,.str s] J (.ok .none zy)/\Ask D J zy|none=>X2 λn zy=>Call ⟨b,JT,JT,d+23⟩ (.fn 537) [.ref D.w,.ref (D.ad i),.ref l,.str s] J (.exc (.ref n) zy)/\vC D [78,97,109,101,69,114,114,111,114] J n zy:=by
 obtain this:=c_ (b:=b) (d:=d) R hi hm wF hk;cases hn:vV D.T i k with
 |none=>rw[hn]at this;obtain⟨n,zy,c,f⟩:=this;exact⟨n,zy,tu rfl rfl (vn (xe (t:=.list l) rfl (zx rfl) hl rfl (.exc hl rfl rfl (vn (Ue (xq (g:=83) rfl (zx rfl) (zx rfl) (zx rfl) c)))))),f⟩
 |some h=>
  rw[hn]at this;obtain⟨zt,c,a,he,ho,hh⟩:=this;obtain pl:∀s∈vd,plainS s=JQ:=by decide+kernel
  obtain⟨zv,hE,bA⟩:∃zv,E ⟨b,JT,JT,d+22⟩ [(1,.ref D.w),(2,.ref (D.ad i)),(29,.ref l),(14,.str s),(0,.str k),(4,.ref h.e)] (.or (.cons (.cmp .ne (.attr (.loc 4) 14) (.loc 14)) (.cons (.cmp .is (.call (.zu 67) (.cons (.loc 1) (.cons (.loc 2) (.cons (.loc 0) .nil)))) .none) .nil))) zt (.ok (.bool (!zR s h.s||(y_ k (D.T i).ms).isNone)) zv)/\Ask D zt zv:=by have h0:=zZ (F:=⟨b,JT,JT,d+22⟩) (L:=[(1,.ref D.w),(2,.ref (D.ad i)),(29,.ref l),(14,.str s),(0,.str k),(4,.ref h.e)]) (zM (zx (x:=4) rfl) he (x:=14) rfl rfl) (zx (x:=14) rfl) (qF hh.ps.1 (pl s hs));cases hq:zR s h.s with|false=>rw[hq]at h0;exact⟨zt,sd h0,a.r,.re⟩|true=>rw[hq]at h0;obtain⟨zb,c2,g2⟩:=iM (b:=b) (d:=d+20) (k:=k) a.r hi hm;exact⟨zb,uP h0 (uO (zZ (xq rfl (zx rfl) (zx rfl) (zx rfl) c2) zQ (yX (Oe _)))),.of a.r g2⟩
  have x0:=yu (F:=⟨b,JT,JT,d+22⟩) (L:=[(1,.ref D.w),(2,.ref (D.ad i)),(29,.ref l),(14,.str s),(0,.str k)]) (x:=4) (xq (g:=83) (x:=.loc 1) (y:=.loc 2) (z:=.loc 0) rfl (zx rfl) (zx rfl) (zx rfl) c);obtain aa:=a.tr bA;obtain PU:=aa.k.get hl;show if(!zR s h.s||(y_ k (D.T i).ms).isNone)=JQ then _ else _;cases hq:(!zR s h.s||(y_ k (D.T i).ms).isNone)with|false=>rw[hq]at hE;exact⟨zv,vK rfl rfl (zr (xe (t:=.list l) rfl (zx rfl) hl rfl (.turn hl rfl rfl (zr x0 (zr (zO hE zj) zj)) (.stop PU))) zj),aa⟩|true=>rw[hq]at hE;obtain he:=bA.k.get he;obtain a1:=aa.push (.inst 256 (D.wm ⟨zv.length,h.b,h.o,s,h.n⟩));obtain⟨zb,c2,g,gl⟩:=cV (b:=b) (d:=d+20) (k:=k) (h:=⟨zv.length,h.b,h.o,s,h.n⟩) a1.r hi hm hk ⟨hs,hh.n,hh.b,hh.o⟩ zA ho;exact⟨zv.length,zb,vK rfl rfl (zr (xe (t:=.list l) rfl (zx rfl) hl rfl (.turn hl rfl rfl (zr x0 (zr (ye hE (zr (yJ (y6 (yp rfl) (zp (zx rfl) (zp (zx rfl) (zp (zx rfl) (zp (yY rfl (zx rfl) (zx rfl) (W3 he)) zf)))) c2)) zj)) zj)) (.stop (gl _ _ (a1.k.get hl))))) zj),g.pre a1.k.lo⟩
theorem ME(R:RI J D)(hi:D.on i=JQ)(hm:i<18)(wF:∀j,yT i=JS j->D.on j=JQ)(hk:k∈yH)(tj:yG i=.none):match(y_ k (D.T i).ms).bind live with|JS h=>∃zy,Call ⟨b,JT,JT,d+13⟩ (.fn 516) [.ref D.w,.ref (D.ad i),.str k] J (.ok .none zy)/\Good D (w9 D.T i (ra k (D.T i).ms)) J zy|none=>X2 λn zy=>Call ⟨b,JT,JT,d+13⟩ (.fn 516) [.ref D.w,.ref (D.ad i),.str k] J (.exc (.ref n) zy)/\vC D [78,97,109,101,69,114,114,111,114] J n zy:=by
 obtain⟨zt,c,g1⟩:=iM (b:=b) (d:=d+10) (k:=k) R hi hm;have R1:=R.gr g1;obtain⟨kp,a1,a3,h1,_⟩:=R1.oo i hi hm;obtain⟨num,main,hw,hn⟩:=R1.wo;have x0:=yu (F:=⟨b,JT,JT,d+12⟩) (L:=[(1,.ref D.w),(2,.ref (D.ad i)),(0,.str k)]) (x:=4) (xq (g:=67) (x:=.loc 1) (y:=.loc 2) (z:=.loc 0) rfl (zx rfl) (zx rfl) (zx rfl) c);have bad:∀{v:V},E ⟨b,JT,JT,d+12⟩ [(1,.ref D.w),(2,.ref (D.ad i)),(0,.str k),(4,v)] (.or (.cons (.cmp .is (.loc 4) .none) (.cons (.cmp .eq (.attr (.loc 4) 35) (.str [110,111,110,101])) .nil))) zt (.ok (.bool JQ) zt)->X2 λn zy=>XB ⟨b,JT,JT,d+12⟩ [(1,.ref D.w),(2,.ref (D.ad i)),(0,.str k),(4,v)] (.cons (.cond (.or (.cons (.cmp .is (.loc 4) .none) (.cons (.cmp .eq (.attr (.loc 4) 35) (.str [110,111,110,101])) .nil))) (.cons (.expr (.zl (.loc 1) 57 (.cons (.str [78,97,109,101,69,114,114,111,114]) (.cons (.bin .add (.bin .add (.bin .add (.str [109,101,116,104,111,100,32,39]) (.loc 0)) (.str [39,32,110,111,116,32,100,101,102,105,110,101,100,32,105,110,32])) (.call (.zu 60) (.cons (.loc 2) .nil))) .nil)))) .nil) .nil) (.cons (.expr (.call (.zu 93) (.cons (.loc 1) (.cons (.loc 2) .nil)))) (.cons (.cond (.or (.cons (.cmp .is (.attr (.loc 2) 34) .none) (.cons (.cmp .is (.call (.zu 129) (.cons (.loc 1) (.cons (.loc 2) (.cons (.loc 0) .nil)))) .none) .nil))) (.cons (.expr (.zl (.attr (.loc 2) 19) 69 (.cons (.loc 0) .nil))) .nil) (.cons (.y7 (.attr (.loc 2) 19) (.loc 0) (.call (.zu 95) (.cons (.loc 0) (.cons (.loc 2) (.cons (.str [103,111,110,101]) (.cons .none (.cons .none (.cons (.str [112,117,98,108,105,99]) .nil)))))))) .nil)) (.cons (.expr (.call (.zu 74) (.cons (.loc 1) .nil))) .nil)))) zt (.exc (.ref n) [(1,.ref D.w),(2,.ref (D.ad i)),(0,.str k),(4,v)] zy)/\vC D [78,97,109,101,69,114,114,111,114] zt n zy:=λ{v}hc=>by
  have n1:([109,101,116,104,111,100,32,39]:List Nat).length<=20:=by decide
  have n2:([39,32,110,111,116,32,100,101,102,105,110,101,100,32,105,110,32]:List Nat).length<=20:=by decide
  have p1:=len_app n1 (iq hk).1;have p2:=len_app p1 n2;obtain⟨n,zk,c,f⟩:=iL (b:=b) (d:=d+1) (s:=[78,97,109,101,69,114,114,111,114]) (m:=[109,101,116,104,111,100,32,39]++k++[39,32,110,111,116,32,100,101,102,105,110,101,100,32,105,110,32]++uf i) (.inr (.inl rfl)) R1;exact⟨n,zk,vn (ye hc (vn (rD (yo (zx rfl) (xS hw rfl rfl) (zp zV (zp (yh (yh (yh zV (zx rfl) (rn n1 (iq hk).1 (by decide))) zV (rn p1 n2 (by decide))) (yC rfl (zx rfl) (cf R1 hi hm wF)) (rn p2 (YQ hm) (by decide))) zf)) c)))),f⟩
 cases hg:y_ k (D.T i).ms with|none=>rw[hg]at x0;obtain⟨n,zy,c,f⟩:=bad (v:=.none) (sd (zZ (zx rfl) zQ (yX rfl)));exact⟨n,zy,tu rfl rfl (zr x0 c),f.pre (Kp.of g1).lo⟩|some h=>rw[hg]at x0;obtain he:=(R1.ee i hi hm _ (lX hg)).1;obtain hc:=zZ (F:=⟨b,JT,JT,d+12⟩) (L:=[(1,.ref D.w),(2,.ref (D.ad i)),(0,.str k),(4,.ref h.e)]) (zM (zx (x:=4) rfl) he (x:=35) rfl rfl) (zV (t:=[110,111,110,101])) (u6 (by cases h.b<;>rfl) rfl);show match live h with|JS h=>_|none=>_;unfold live;cases hb:h.b with|none=>rw[hb]at hc;obtain⟨n,zy,c,f⟩:=bad (v:=.ref h.e) (uP (zZ (zx rfl) zQ (yX rfl)) (uO hc));exact⟨n,zy,tu rfl rfl (zr x0 c),f.pre (Kp.of g1).lo⟩|some t=>rw[hb]at hc;obtain⟨g,gl⟩:=R1.V5 (ms:=ra k (D.T i).ms) hi hm hw hn (λp hp=>⟨R.s.wf.ks i p (nr.mem hp),R1.ee i hi hm p (nr.mem hp)⟩) ((nr.map _).nodup (R.s.wf.nd i));have hd:=R1.mm i hi hm;have hp:=Wq (F:=⟨b,JT,JT,d+12⟩) rfl hd (k:=k) (v:=.ref h.e) (by rewrite[qv];rw[hg];rfl) (R.s.wf.short i);rw[gB]at hp;refine⟨_,vK rfl rfl (zr x0 (zr (zO (uP (zZ (zx rfl) zQ (yX rfl)) (uO hc)) zj) (zr (yJ (yY rfl (zx rfl) (zx rfl) (iH R1 hi hm))) (zr (ye (sd (zZ (zM (zx rfl) h1 rfl (show _=JS (yG i)from rfl)) zQ (yX (by rw[tj];rfl)))) (zr (yJ (yo (zM (zx rfl) h1 rfl rfl) (YS hd) (zp (zx rfl) zf) hp)) zj)) (zr (yJ (yC rfl (zx rfl) (kZ (zK hw (by obtain this:=(R.s.lo i hi).2;lia))))) zj))))),Good.pre (Kp.of g1).lo ⟨g,gl⟩⟩
end
noncomputable def targets:List Nat:=[5,6,7,8,10,11,12,15,16,17]
noncomputable def x9(T:Tb)(i g:Nat):List Nat:=if g=5 then[84,121,112,101,69,114,114,111,114]else if(own T 2 g).contains i then[65,114,103,117,109,101,110,116,69,114,114,111,114]else[]
noncomputable def dN(x:Nat):S:=.cons (.expr (.call (.zu 127) (.cons (.loc 1) (.cons (.loc 2) (.cons (.loc 27) .nil))))) (.cons (.expr (.call (.zu 93) (.cons (.loc 1) (.cons (.loc 2) .nil)))) (.cons (.cond (.not (.call (.zu 43) (.cons (.attr (.loc 2) x) (.cons (.loc 27) .nil)))) (.cons (.expr (.zl (.attr (.loc 2) x) 30 (.cons (.loc 27) .nil))) (.cons (.expr (.call (.zu 74) (.cons (.loc 1) .nil))) .nil)) .nil) .nil))
section
variable{b:Bc}{d:Nat}{q:Bool}{J zt zb zy:St}{D D':Dt}{i:Nat}{k:List Nat}{L:Loc}
theorem W4(R:RI J D)(hi:D.on i=JQ):∃o,C3 (i<18->o=if yf i then 4 else 3) (18<=i->o=i-15) (Call ⟨b,JT,JT,d+1⟩ (.fn 728) [.ref D.w,.ref (D.ad i)] J (.ok (.ref (D.ad o)) J)):=by
 obtain⟨c,fs,h1,hc,hl,hr,_⟩:=R.tm hi;have hp:=sA hc;have hk:xi c 18=JQ:=by rcases hc with rfl|rfl<;>rfl
 have go:∀{o:Nat},lk 18 fs=JS (.ref (D.ad o))->Call ⟨b,JT,JT,d+1⟩ (.fn 728) [.ref D.w,.ref (D.ad i)] J (.ok (.ref (D.ad o)) J):=λh=>zI rfl rfl (zr (zO (zZ (zx rfl) zQ (yX rfl)) zj) (zr (zO (yY rfl (zx rfl) (yp rfl) (pQ h1 hp rfl)) zj) (zr (zO (yY rfl (zx rfl) (yp rfl) (pQ h1 hp rfl)) zj) (zT (zL (wt (yY rfl (zx rfl) (yp rfl) (pQ h1 hp rfl)) (zM (zx rfl) h1 hk h)))))));by_cases hm:i<18;.obtain⟨xF,xD,_,h3,_⟩:=R.nM hi hm;replace xD:=yc h1 xD;cases xD;exact⟨_,λzz=>rfl,λh=>absurd hm (GX.mpr h),go h3⟩
 .exact⟨_,λh=>absurd h hm,λzz=>rfl,go (hr (IU hm)).2⟩
theorem MK{g:Nat}(R:RI J D)(hi:D.on i=JQ)(hm:i<18)(hg:g=8\/g=9\/g=5):(x9 D.T i g≠[]->X2 λn zy=>Call ⟨b,JT,JT,d+12⟩ (.fn 544) [.ref D.w,.ref (D.ad i),.ref (D.ad g)] J (.exc (.ref n) zy)/\vC D (x9 D.T i g) J n zy)/\(x9 D.T i g=[]->∃zy,Call ⟨b,JT,JT,d+12⟩ (.fn 544) [.ref D.w,.ref (D.ad i),.ref (D.ad g)] J (.ok .none zy)/\Gr J zy):=by
 have yb:D.on g=JQ/\g<18:=by rcases hg with rfl|rfl|rfl<;>exact⟨R.s.om _ (by decide) (by decide),by decide⟩
 obtain⟨kp,a1,a3,h1,_⟩:=R.oo g yb.1 yb.2;obtain⟨num,main,hw,_⟩:=R.wo;have h0:=vM (F:=⟨b,JT,JT,d+11⟩) (yY (L:=[(1,.ref D.w),(2,.ref (D.ad i)),(27,.ref (D.ad g))]) (x:=.loc 27) (y:=.zu 44) (g:=23) rfl (zx rfl) (yp rfl) (tf h1 (sA (.inl rfl)) (t:=JQ) rfl rfl));have hc:E ⟨b,JT,JT,d+11⟩ [(1,.ref D.w),(2,.ref (D.ad i)),(27,.ref (D.ad g))] (.or (.cons (.not (.call (.zu 23) (.cons (.loc 27) (.cons (.zu 44) .nil)))) (.cons (.attr (.loc 27) 21) .nil))) J (.ok (.bool (yf g)) J):=uP h0 (uO (zM (zx rfl) h1 rfl rfl));by_cases h5:g=5;.subst h5;obtain e:x9 D.T i 5=[84,121,112,101,69,114,114,111,114]:=if_pos rfl;rw[e];refine⟨λzz=>?_,λh=>nomatch h⟩;obtain⟨o,ho,_,co⟩:=W4 (b:=b) (d:=d+10) R yb.1;obtain ho:=ho yb.2;subst ho;obtain NF:xd J (D.ad 4) [67,108,97,115,115]:=R.nm (R.s.om 4 (by decide) (by decide)) (by decide) rfl;obtain⟨n,zy,c,f⟩:=iL (b:=b) (d:=d) (s:=[84,121,112,101,69,114,114,111,114]) (m:=[119,114,111,110,103,32,97,114,103,117,109,101,110,116,32,116,121,112,101,32]++[67,108,97,115,115]++[32,40,101,120,112,101,99,116,101,100,32,77,111,100,117,108,101,41]) (.inr (.inr rfl)) R;exact⟨n,zy,tu rfl rfl (vn (ye hc (zr (yu (yC rfl (yo (zx rfl) (xS hw rfl rfl) (zp (zx rfl) zf) co) (k_ NF))) (vn (rD (yo (zx rfl) (xS hw rfl rfl) (zp zV (zp (yh (yh zV (zx rfl) (u9 rfl)) zV (u9 rfl)) zf)) c)))))),f⟩
 .have e:x9 D.T i g=if(own D.T 2 g).contains i then[65,114,103,117,109,101,110,116,69,114,114,111,114]else[]:=if_neg h5;have wM:yf g=JT:=by rcases hg with rfl|rfl|rfl<;>first|rfl|exact absurd rfl h5
  rw[wM]at hc;obtain⟨l,zt,c1,g1,_,hl⟩:=cX (b:=b) (d+8) 2 g J (JK _) yb.1 yb.2 (R.s.wf.Z6 g) R;have R1:=R.gr g1;have hh:=yY (F:=⟨b,JT,JT,d+11⟩) (L:=[(1,.ref D.w),(2,.ref (D.ad i)),(27,.ref (D.ad g))]) (x:=.call (.zu 82) (.cons (.loc 27) .nil)) (y:=.loc 2) (g:=43) rfl (yC rfl (zx rfl) c1) (zx rfl) (n9 (d:=d+8) R1 hl (λx hx=>(R.kj 2 yb.1 yb.2 x hx).1) hi);rw[e];cases hq:(own D.T 2 g).contains i with|true=>rw[hq]at hh;refine⟨λzz=>?_,λh=>nomatch h⟩;obtain⟨n,zy,c,f⟩:=iL (b:=b) (d:=d) (s:=[65,114,103,117,109,101,110,116,69,114,114,111,114]) (m:=[99,121,99,108,105,99,32,105,110,99,108,117,100,101,32,100,101,116,101,99,116,101,100]) (.inl rfl) R1;exact⟨n,zy,tu rfl rfl (zr (zO hc zj) (vn (ye hh (vn (rD (yo (zx rfl) (xS (g1.get hw) rfl rfl) (zp zV (zp zV zf)) c)))))),f.pre (Kp.of g1).lo⟩|false=>rw[hq]at hh;exact⟨λh=>absurd rfl h,λzz=>⟨zt,vK rfl rfl (zr (zO hc zj) (zr (zO hh zj) zj)),g1⟩⟩
theorem Wl{T:Tb}(w:WF T){c:Bool}{g:Nat}(ht:i∈targets)(hg:g=8\/g=9\/g=5)(h:x9 T i g=[])(hc:((T i).li c).contains g=JT):(T i).li c++[g]∈vt c i:=by
 have h5:g≠5:=λe=>by subst e;rw[x9,if_pos rfl]at h;exact nomatch h
 obtain h8:i=8->g=9:=λe=>by
  rcases hg with rfl|rfl|rfl;.subst e;obtain this:(own T 2 8).contains 8=JQ:=I3.mpr (He _ (.head _));rw[x9,if_neg h5,if_pos this]at h;exact nomatch h
  .rfl
  .exact absurd rfl h5
 obtain this:∀i∈targets,∀c:Bool,∀l∈vt c i,∀g,g=8\/g=9->(i=8->g=9)->l.contains g=JT->l++[g]∈vt c i:=by
  obtain this:∀i∈targets,∀c:Bool,∀l∈vt c i,((l.contains 9||(vt c i).contains (l++[9]))&&(JG i 8||(l.contains 8||(vt c i).contains (l++[8]))))=JQ:=by decide+kernel
  intro i hi c l hl g hg Pj hn;obtain⟨q1,q2⟩:=zh (this i hi c l hl);rcases hg with rfl|rfl
  .rcases(Iq _ _).mp q2 with q|q;.exact absurd (Pj (JD q)) (by decide)
   .rw[hn]at q;exact I3.mp q
  .rw[hn]at q1;exact I3.mp q1
 exact this i ht c _ (w.li i c) g (hg.elim .inl λh=>h.elim .inr λh=>absurd h h5) h8 hc
theorem KS{c:Bool}{x g:Nat}(hx:∀{a1 a3:Nat}{kp:V},lk x (D.w_ i a1 a3 kp)=JS (.ref (D.la c i)))(hk:xi 228 x=JQ)(R:RI J D)(hi:D.on i=JQ)(ht:i∈targets)(hg:g=8\/g=9\/g=5):(x9 D.T i g≠[]->X2 λn zy=>XB ⟨b,JT,JT,d+12⟩ [(1,.ref D.w),(2,.ref (D.ad i)),(27,.ref (D.ad g))] (dN x) J (.exc (.ref n) [(1,.ref D.w),(2,.ref (D.ad i)),(27,.ref (D.ad g))] zy)/\vC D (x9 D.T i g) J n zy)/\(x9 D.T i g=[]->∃zy,XB ⟨b,JT,JT,d+12⟩ [(1,.ref D.w),(2,.ref (D.ad i)),(27,.ref (D.ad g))] (dN x) J (.ok .next [(1,.ref D.w),(2,.ref (D.ad i)),(27,.ref (D.ad g))] zy)/\if((D.T i).li c).contains g then Ask D J zy else Good D (u_ D.T i ((D.T i).putL c ((D.T i).li c++[g]))) J zy):=by
 have hm:i<18:=by
  obtain this:∀i∈targets,i<18:=by decide
  exact this i ht
 obtain⟨n1,n2⟩:=MK (b:=b) (d:=d) (g:=g) R hi hm hg;refine⟨λh=>?_,λh=>?_⟩;.obtain⟨n,zy,c,f⟩:=n1 h;exact⟨n,zy,vn (rD (xq rfl (zx rfl) (zx rfl) (zx rfl) c)),f⟩
 .obtain⟨zt,c1,g1⟩:=n2 h;have R1:=R.gr g1;obtain⟨kp,a1,a3,h1,_⟩:=R1.oo i hi hm;obtain⟨num,main,hw,hn⟩:=R1.wo;obtain hl:=R1.ll i c hi hm;obtain vJ:D.on g=JQ:=by rcases hg with rfl|rfl|rfl<;>exact R.s.om _ (by decide) (by decide)
  obtain ha:=zM (F:=⟨b,JT,JT,d+12⟩) (L:=[(1,.ref D.w),(2,.ref (D.ad i)),(27,.ref (D.ad g))]) (zx (x:=2) rfl) h1 hk hx;have hh:=vM (yY (g:=43) (y:=.loc 27) rfl ha (zx rfl) (n9 (d:=d+9) R1 hl (λx hx=>(R.mem hx).1) vJ));have x0:=yJ (xq (F:=⟨b,JT,JT,d+12⟩) (L:=[(1,.ref D.w),(2,.ref (D.ad i)),(27,.ref (D.ad g))]) (g:=127) (x:=.loc 1) (y:=.loc 2) (z:=.loc 27) rfl (zx rfl) (zx rfl) (zx rfl) c1);have x1:=yJ (yY (F:=⟨b,JT,JT,d+12⟩) (L:=[(1,.ref D.w),(2,.ref (D.ad i)),(27,.ref (D.ad g))]) (g:=93) (x:=.loc 1) (y:=.loc 2) rfl (zx rfl) (zx rfl) (iH (d:=d+11) R1 hi hm));cases hq:((D.T i).li c).contains g with|true=>rw[hq]at hh;exact⟨zt,zr x0 (zr x1 (zr (zO hh zj) zj)),.of R g1⟩|false=>rw[hq]at hh;obtain⟨gr,gl⟩:=R1.L8 (c:=c) (xs:=(D.T i).li c++[g]) hi hm hw hn (Wl R.s.wf ht hg h hq);obtain Y8:=pH (F:=⟨b,JT,JT,d+12⟩) (v:=.ref (D.ad g)) rfl hl (sG (J4 (R.s.wf.two i c) (by decide)));rw[show rf D.ad ((D.T i).li c)++[.ref (D.ad g)]=rf D.ad ((D.T i).li c++[g])from(qV (k:=[g])).symm]at Y8;exact⟨_,zr x0 (zr x1 (zr (ye hh (zr (yJ (yo ha (ug hl) (zp (zx rfl) zf) Y8)) (zr (yJ (yC rfl (zx rfl) (kZ (zK hw (by obtain this:=(R.s.lo i hi).3 c;lia))))) zj))) zj)),Good.pre (Kp.of g1).lo ⟨gr,gl⟩⟩
end
noncomputable def Dt.mk' (D : Dt) (j n : Nat) (nu : Int) : Dt := { D with
  zE := D.zE + 1
  ad := fun x => if x = j then n else D.ad x
  da := fun x => if x = j then n + 2 else D.da x
  la := fun c x => if x = j then n + (if c then 5 else 4) else D.la c x
  on := fun x => x == j || D.on x
  nu := fun x => if x = j then nu else D.nu x }
section
variable{b:Bc}{d:Nat}{J zt zb zy:St}{D D':Dt}{i j n p x:Nat}{nu:Int}
theorem o9(s:v9 D){i:Nat}(hi:D.on i=JQ)(hm:i<18):∀j,yT i=JS j->D.on j=JQ:=λj hj=>by
 obtain this:∀i<18,(match yT i with|JS j=>JG j 20||(JG j 21||(Io j 10&&(!JG j 7||JG i 17)))|none=>JQ)=JQ:=by decide+kernel
 obtain this:=this i hm;rw[hj]at this;rcases(Iq _ _).mp this with h|h;.rw[JD h];exact s.tm.1
 rcases(Iq _ _).mp h with h|h;.rw[JD h];exact s.tm.2
 obtain⟨h1,h2⟩:=zh h;by_cases h7:j=7
 .subst h7;rcases(Iq _ _).mp h2 with h|h;.cases h
  .rw[JD h]at hi;exact s.a7 hi
 .exact s.om j (JA h1) h7
theorem wZ(h:x≠j):(D.mk' j n nu).ad x=D.ad x:=if_neg h
theorem lB:(D.mk' j n nu).ad j=n:=if_pos rfl
theorem vH(h:x≠j):(D.mk' j n nu).on x=D.on x:=by show(x==j||D.on x)=_;rw[beq_false_of_ne h];rfl
theorem lA:(D.mk' j n nu).on j=JQ:=by show(j==j||D.on j)=_;rw[beq_self_eq_true];rfl
theorem pE{o:Option Nat}(h:o≠JS j):(D.mk' j n nu).opt o=D.opt o:=by cases o with|none=>rfl|some y=>obtain hy:y≠j:=λe=>h (by rw[e]);show(if(D.mk' j n nu).on y then V.ref ((D.mk' j n nu).ad y)else .none)=if D.on y then .ref (D.ad y)else .none;rewrite[vH hy];rw[wZ hy]
theorem Wk{l:List Nat}(h:∀x∈l,x≠j):rf (D.mk' j n nu).ad l=rf D.ad l:=by unfold rf;exact congrArg refs (HG λx hx=>wZ (h x hx))
theorem ky(yI:D.on j=JT)(h:D.on x=JQ):x≠j:=λe=>by rw[e,yI]at h;cases h
theorem qZ{i j:Nat}(h:yr i=JS j):C6 (10<=j/\j<18) (yT j=JS i) (yf j=JQ) (qc j=.none) (∀x,yr x=JS j->x=i) (j=17->i=7):=by
 have hi:i<22:=I6 λq=>by rw[yr,rI q]at h;cases h
 obtain this:∀i<22,(match yr i with|JS j=>(Ho 10 j&&(Io j 18&&(yT j==JS i&&(yf j&&((IF 22).all (λx=>yr x !=JS j||JG x i)&&(!JG j 17||JG i 7))))))|none=>JQ)=JQ:=by decide+kernel
 obtain this:=this i hi;rw[h]at this;obtain⟨h1,this⟩:=zh this;obtain⟨h2,this⟩:=zh this;obtain⟨h3,this⟩:=zh this;obtain⟨h4,this⟩:=zh this;obtain⟨h5,h6⟩:=zh this;obtain h3:=eq_of_beq h3;refine⟨⟨JA h1,JA h2⟩,h3,h4,by unfold qc;rw[h3],λx hx=>?_,λe=>?_⟩
 .obtain lO:x<22:=I6 λq=>by rw[yr,rI q]at hx;cases hx
  obtain this:=Iz.mp h5 x (Hw.mpr lO);rw[hx]at this;rcases(Iq _ _).mp this with q|q;.rw[bne_self_eq_false]at q;cases q
  .exact JD q
 .subst e;rcases(Iq _ _).mp h6 with q|q;.cases q
  .exact JD q
theorem U0{x y:Nat}(h:yT x=JS y):y<10\/20<=y:=by
 have hx:x<18:=I6 λq=>by rw[yT,rI q]at h;cases h
 obtain this:∀x<18,(match yT x with|JS y=>Io y 10||Ho 20 y|none=>JQ)=JQ:=by decide+kernel
 obtain this:=this x hx;rw[h]at this;exact((Iq _ _).mp this).imp JA JA
theorem v9.k9(R:RI J D)(j2:j<18)(j7:j=17->D.on 7=JQ)(yI:D.on j=JT)(hp:par j=JS p)(qj:D.on p=JQ)(hn:∀i,D.on i=JQ->D.nu i<=nu)(hl:J.length<=n):v9 (D.mk' j n (nu+1)):=by
 have lt:∀x,D.on x=JQ->x<18->D.da x<n/\∀c,D.la c x<n:=λx hx hm=>⟨IJ (y0 (R.mm x hx hm)) hl,λc=>IJ (y0 (R.ll x c hx hm)) hl⟩;obtain kl:=IJ (y0 R.kn) hl;obtain o0:=R.s.om 0 (by decide) (by decide);have wn:D.w+5<n:=GL (R.s.lo 0 o0).2 (lt 0 o0 (by decide)).1;have sp:∀{x},(D.mk' j n (nu+1)).on x=JQ->x=j\/x≠j/\D.on x=JQ:=λ{x}h=>by
  by_cases e:x=j;.exact .inl e
  .exact .inr ⟨e,by rw[vH e]at h;exact h⟩
 have dj:(D.mk' j n (nu+1)).da j=n+2:=if_pos rfl;have dx:∀{x},x≠j->(D.mk' j n (nu+1)).da x=D.da x:=λh=>if_neg h;have lj:∀c:Bool,(D.mk' j n (nu+1)).la c j=n+(if c then 5 else 4):=λc=>if_pos rfl;have lx:∀(c:Bool){x},x≠j->(D.mk' j n (nu+1)).la c x=D.la c x:=λc x h=>if_neg h;have nj:(D.mk' j n (nu+1)).nu j=nu+1:=if_pos rfl;have nx:∀{x},x≠j->(D.mk' j n (nu+1)).nu x=D.nu x:=λh=>if_neg h;have rO:∀{x},D.on x=JQ->(D.mk' j n (nu+1)).on x=JQ:=λh=>by rw[vH (ky yI h)];exact h
 refine⟨λx y hx hy e=>?_,λx hx=>?_,R.s.w2,R.s.kn,λx y hx hy xm ym e=>?_,λx hx xm=>?_,λx y c e hx hy xm ym q=>?_,λx p' hx jE=>?_,λx h1 h2=>rO (R.s.om x h1 h2),⟨rO R.s.tm.1,rO R.s.tm.2⟩,λx hx=>?_,λx hx=>?_,λh=>?_,R.s.wf⟩
 .rcases sp hx with rfl|⟨h1,h2⟩<;>rcases sp hy with rfl|⟨h3,h4⟩;.rfl
  .rw[nj,nx h3]at e;have:=hn y h4;lia
  .rw[nj,nx h1]at e;have:=hn x h2;lia
  .rw[nx h1,nx h3]at e;exact R.s.inj x y h2 h4 e
 .rcases sp hx with rfl|⟨h1,h2⟩;.rewrite[lB];rw[dj];exact⟨show D.w+5<=n by lia,show D.w+5<=n+2 by lia,λc=>by rw[lj];show D.w+5<=_;lia⟩
  .rewrite[wZ h1];rw[dx h1];exact⟨(R.s.lo x h2).1,(R.s.lo x h2).2,λc=>by rw[lx c h1];exact(R.s.lo x h2).3 c⟩
 .rcases sp hx with rfl|⟨h1,h2⟩<;>rcases sp hy with rfl|⟨h3,h4⟩;.rfl
  .rw[dj,dx h3]at e;have:=(lt y h4 ym).1;lia
  .rw[dj,dx h1]at e;have:=(lt x h2 xm).1;lia
  .rw[dx h1,dx h3]at e;exact R.s.di x y h2 h4 xm ym e
 .rcases sp hx with rfl|⟨h1,h2⟩;.rw[dj];exactλe=>by have:n+2=D.kn:=e;lia
  .rw[dx h1];exact R.s.dk x h2 xm
 .rcases sp hx with rfl|⟨h1,h2⟩<;>rcases sp hy with rfl|⟨h3,h4⟩;.refine⟨rfl,?_⟩;rw[lj,lj]at q;revert q;cases c<;>cases e<;>intro q<;>first|rfl|(simp only[if_true,Iv,if_false]at q;lia)
  .rw[lj,lx e h3]at q;have:=(lt y h4 ym).2 e;lia
  .rw[lj,lx c h1]at q;have:=(lt x h2 xm).2 c;lia
  .rw[lx c h1,lx e h3]at q;exact R.s.li x y c e h2 h4 xm ym q
 .rcases sp hx with rfl|⟨h1,h2⟩;.replace jE:=yc hp jE;cases jE;exact rO qj
  .exact rO (R.s.pm x p' h2 jE)
 .rcases sp hx with rfl|⟨h1,h2⟩;.exact .inl j2
  .exact R.s.bd x h2
 .have e:x≠j:=λe=>by rw[e,lA]at hx;cases hx
  rw[vH e]at hx;exact R.s.un x hx
 .rcases sp h with e|⟨h1,h2⟩;.exact rO (j7 e.symm)
  .exact rO (R.s.a7 h2)
end
section
variable{b:Bc}{d:Nat}{J zt zb zy:St}{D D':Dt}{i j n p x:Nat}{nu:Int}
noncomputable def Dt.NU(D:Dt)(i a1 a3:Nat)(kp:V)(n:Nat):Loc:=mf a1 (D.da i) a3 (D.la JT i) (D.la JQ i) (.int (D.nu i)) (.ref (D.ad (if yf i then 4 else 3))) (.ref n) (qc i) (yf i) (D.opt (par i)) (D.opt (yT i)) (yG i) kp
noncomputable def mJ(D:Dt)(i j n p:Nat)(nu:Int):Loc:=mf (n+1) (n+2) (n+3) (n+4) (n+5) (.int nu) (.ref (D.ad 4)) .none .none JQ (.ref (D.ad p)) (.ref (D.ad i)) (yG j) .none
theorem RI.k9(R:RI J D){num:Int}{main:V}(ho:yr i=JS j)(hi:D.on i=JQ)(yI:D.on j=JT)(hp:par j=JS p)(qj:D.on p=JQ)(hn:∀i,D.on i=JQ->D.nu i<=num)(hl:J.length<=n)(k:Bt [D.w,D.ad i] J zy)(hw:zy[D.w]?=JS (.inst 899 (wf D.w (num+1) (D.zE+1) main)))(ha:if i<18 then X3 λkp a1 a3=>zy[D.ad i]?=JS (.inst 228 (D.NU i a1 a3 kp n))/\mW J D i kp else∃a,zy[D.ad i]?=JS (.inst 40 (st 24 (.ref n) (D.tY i a))))(b0:zy[n]?=JS (.inst 228 (mJ D i j n p (num+1))))(b2:zy[n+2]?=JS (.dict []))(b4:zy[n+4]?=JS (.list []))(b5:zy[n+5]?=JS (.list [])):RI zy (D.mk' j n (num+1)):=by
 obtain⟨⟨j1,j2⟩,wF,wM,PL,Xj,j7⟩:=qZ ho;have s':=v9.k9 (nu:=num) R j2 (λe=>by obtain this:=j7 e;subst this;exact hi) yI hp qj hn hl;obtain⟨n0,m0,nZ,_⟩:=R.wo;obtain w2:=R.s.w2;obtain wk:=R.s.kn;obtain⟨la,Jl,Jk⟩:=R.s.lo i hi;obtain oA:X2 λc fs=>J[D.ad i]?=JS (.inst c fs)/\(c=228\/c=40):=let⟨c,fs,h,hc,_,_,_⟩:=R.tm hi;⟨c,fs,h,hc⟩;obtain⟨ca,fa,oA,Y5⟩:=oA;have nn:∀{r:Nat},r≠D.w->r≠D.ad i->r∉[D.w,D.ad i]:=λh1 h2 m=>by
  rcases JJ.mp m with z|z;.exact h1 z
  .exact h2 (JP.mp z)
 have ni:∀{r:Nat}{o:O},J[r]?=JS o->(match o with|.inst c _=>!(JG c 228||(JG c 40||JG c 899))|_=>JQ)=JQ->r∉[D.w,D.ad i]:=λ{r o}h hc=>nn (λe=>by rw[e,nZ]at h;cases h;cases hc) λe=>by rw[e,oA]at h;cases h;rcases Y5 with rfl|rfl<;>cases hc
 have od:∀{x},D.on x=JQ->x≠j:=λh=>ky yI h;have C:∀{x},x≠i->(D.mk' j n (num+1)).opt (yr x)=D.opt (yr x):=λhx=>pE λe=>hx (Xj _ e);have oi:(D.mk' j n (num+1)).opt (yr i)=.ref n:=by rewrite[ho];rewrite[tF lA];rw[lB]
 have op:∀{x},D.on x=JQ->(D.mk' j n (num+1)).opt (par x)=D.opt (par x):=λ{x}h=>pE λe=>by rw[R.s.pm x j h e]at yI;cases yI
 have oa:∀{x},(D.mk' j n (num+1)).opt (yT x)=D.opt (yT x):=λ{x}=>pE λe=>by obtain this:=U0 e;lia
 have Q6:∀x,(D.mk' j n (num+1)).ad (if yf x then 4 else 3)=D.ad (if yf x then 4 else 3):=λx=>wZ (by split<;>lia);have mD:∀{x},x≠j->(D.mk' j n (num+1)).da x=D.da x:=λh=>if_neg h;have pK:∀(c:Bool){x},x≠j->(D.mk' j n (num+1)).la c x=D.la c x:=λc x h=>if_neg h;have pA:∀{x},x≠j->(D.mk' j n (num+1)).nu x=D.nu x:=λh=>if_neg h;have un:=R.s.un j yI;have OZ:¬JG j 2=JQ:=λh=>by obtain this:=JD h;lia
 have Kq:∀c,(D.T j).li c=[]:=λc=>by
  rw[un.1 c];obtain this:(JG j 2&&!c)=JT:=by cases q:JG j 2 with|true=>exact absurd q OZ|false=>rfl
  rw[this];rfl
 have sp:∀{x},(D.mk' j n (num+1)).on x=JQ->x=j\/x≠j/\D.on x=JQ:=λ{x}h=>by
  by_cases e:x=j;.exact .inl e
  .exact .inr ⟨e,by rw[vH e]at h;exact h⟩
 obtain om:∀x,x<10->x≠7->D.on x=JQ:=R.s.om;have rT:∀{x:Nat}{kp:V},mW J D x kp->mW zy (D.mk' j n (num+1)) x kp:=λh=>h.imp id λ⟨v,l,e1,e2,e3⟩=>⟨v,l,e1,Fq e2 (show D.zE<=D.zE+1 by lia),λz=>absurd (show v=D.zE+1 from z) (by lia)⟩;obtain⟨md,h1,h2⟩:=R.md;have nm:∀a s,xd J a s->xd zy a s:=λa s⟨fs,q1,q2⟩=>by
  by_cases e:a=D.ad i
  .subst e;replace q1:=yc oA q1;cases q1;rcases Y5 with h|h
   .have hm:i<18:=I6 λh=>by obtain⟨a,h3⟩:=R.th i hi h;replace h3:=yc oA h3;cases h3
    rw[if_pos hm]at ha;obtain⟨kp,a1,a3,g1,_⟩:=ha;obtain⟨Jm,c1,c3,g2,_⟩:=R.oo i hi hm;replace g2:=yc oA g2;cases g2;exact⟨_,g1,q2⟩
   .cases h
  .exact⟨fs,k.2 _ _ q1 (nn (λz=>by rw[z,nZ]at q1;cases q1) e),q2⟩
 obtain h3:=h2.to nm;refine⟨⟨num+1,main,hw,λx hx=>?_⟩,⟨md,k.2 _ _ h1 (ni h1 rfl),⟨λx hx=>?_,h3.e,h3.nd,h3.ks⟩⟩,k.2 _ _ R.c0 (ni R.c0 rfl),k.2 _ _ R.c1 (ni R.c1 rfl),k.2 _ _ R.n0 (ni R.n0 rfl),k.2 _ _ R.n1 (ni R.n1 rfl),?_,λx hx hm=>?_,λx hx hm=>?_,λx hx hm q hq=>?_,λx c hx hm=>?_,λx hx hm=>?_,s'⟩
 .rcases sp hx with rfl|⟨e,h⟩;.exact Int.le_of_eq (if_pos rfl)
  .rw[pA e];obtain this:=hn x h;lia
 .rw[wZ (show x≠j by lia)];exact h3.j x hx
 .obtain this:ux (D.mk' j n (num+1))=ux D:=by unfold ux;rewrite[wZ (show 2≠j by lia)];rewrite[wZ (show 4≠j by lia)];rewrite[wZ (show 1≠j by lia)];rewrite[wZ (show 5≠j by lia)];rewrite[wZ (show 6≠j by lia)];rewrite[wZ (show 7≠j by lia)];rewrite[wZ (show 8≠j by lia)];rewrite[wZ (show 9≠j by lia)];rewrite[wZ (show 20≠j by lia)];rewrite[wZ (show 21≠j by lia)];rw[vH (show 7≠j by lia)]
  rw[this];exact k.2 _ _ R.kn (ni R.kn rfl)
 .rcases sp hx with rfl|⟨e,h⟩
  .rw[lB];refine⟨.none,n+1,n+3,?_,.inl rfl⟩;unfold Dt.w_;rw[PL,wM,show(D.mk' x n (num+1)).da x=n+2 from if_pos rfl,show(D.mk' x n (num+1)).la JT x=n+4 from if_pos rfl,show(D.mk' x n (num+1)).la JQ x=n+5 from if_pos rfl,show(D.mk' x n (num+1)).nu x=num+1 from if_pos rfl,wZ (show(if JQ=JQ then 4 else 3)≠x by simp only[if_true];lia),hp,tF (show(D.mk' x n (num+1)).on p=JQ by rw[vH (od qj)];exact qj),wZ (od qj),wF,tF (show(D.mk' x n (num+1)).on i=JQ by rw[vH (od hi)];exact hi),wZ (od hi),pE (show yr x≠JS x fromλe=>by obtain this:=Xj x e;subst this;replace yI:=hi.symm.trans yI;cases yI)];obtain this:D.opt (yr x)=.none:=by
    obtain this:∀x,10<=x->x<18->yr x=none:=λx h1 h2=>by
     obtain this:∀x<18,10<=x->yr x=none:=by decide+kernel
     exact this x h2 h1
    rw[this x j1 j2];rfl
   rw[this];exact b0
  .rw[wZ e];have w_:∀a1 a3 kp o,mf a1 ((D.mk' j n (num+1)).da x) a3 ((D.mk' j n (num+1)).la JT x) ((D.mk' j n (num+1)).la JQ x) (.int ((D.mk' j n (num+1)).nu x)) (.ref ((D.mk' j n (num+1)).ad (if yf x then 4 else 3))) o (qc x) (yf x) ((D.mk' j n (num+1)).opt (par x)) ((D.mk' j n (num+1)).opt (yT x)) (yG x) kp=mf a1 (D.da x) a3 (D.la JT x) (D.la JQ x) (.int (D.nu x)) (.ref (D.ad (if yf x then 4 else 3))) o (qc x) (yf x) (D.opt (par x)) (D.opt (yT x)) (yG x) kp:=λa1 a3 kp o=>by rewrite[mD e];rewrite[pK JT e];rewrite[pK JQ e];rewrite[pA e];rewrite[Q6];rewrite[op h];rw[oa]
   by_cases q:x=i;.subst q;rw[if_pos hm]at ha;obtain⟨kp,a1,a3,g1,g2⟩:=ha;refine⟨kp,a1,a3,?_,rT g2⟩;unfold Dt.w_;rewrite[w_];rw[oi];exact g1
   .obtain⟨kp,a1,a3,g1,g2⟩:=R.oo x h hm;refine⟨kp,a1,a3,?_,rT g2⟩;unfold Dt.w_;rewrite[w_];rw[C q];exact k.2 _ _ g1 (nn (λz=>by rw[z,nZ]at g1;cases g1) (R.iY h hi q))
 .rcases sp hx with rfl|⟨e,h⟩;.rw[show(D.mk' x n (num+1)).da x=n+2 from if_pos rfl,show((D.mk' x n (num+1)).T x).ms=[]from un.2];exact b2
  .rw[mD e];exact k.2 _ _ (R.mm x h hm) (ni (R.mm x h hm) rfl)
 .rcases sp hx with rfl|⟨e,h⟩;.obtain hq:q∈(D.T x).ms:=hq;rw[un.2]at hq;exact nomatch hq
  .obtain⟨g1,g2⟩:=R.ee x h hm q hq;obtain e2:=od g2;refine⟨?_,by rw[vH e2];exact g2⟩;obtain this:(D.mk' j n (num+1)).wm q.2=D.wm q.2:=by unfold Dt.wm;rw[wZ e2]
   rw[this];exact k.2 _ _ g1 (ni g1 rfl)
 .rcases sp hx with rfl|⟨e,h⟩
  .rw[show((D.mk' x n (num+1)).T x).li c=[]from Kq c,show(D.mk' x n (num+1)).la c x=n+(if c then 5 else 4)from if_pos rfl];cases c;.exact b4
   .exact b5
  .rewrite[pK c e];rw[Wk (l:=((D.mk' j n (num+1)).T x).li c) λy hy=>od (R.mem (show y∈(D.T x).li c from hy)).1];exact k.2 _ _ (R.ll x c h hm) (ni (R.ll x c h hm) rfl)
 .rcases sp hx with rfl|⟨e,h⟩;.lia
  .rw[wZ e];have tY:∀a,(D.mk' j n (num+1)).tY x a=st 24 ((D.mk' j n (num+1)).opt (yr x)) (D.tY x a):=λa=>by unfold Dt.tY;rewrite[pA e];rw[wZ (show x-15≠j by rcases R.s.bd x h with h|h|h<;>lia)];rfl
   by_cases q:x=i;.subst q;rw[if_neg (by lia)]at ha;obtain⟨a,g⟩:=ha;exact⟨a,by rewrite[tY];rw[oi];exact g⟩
   .obtain⟨a,g⟩:=R.th x h hm;exact⟨a,by rewrite[tY];rw[C q];exact k.2 _ _ g (nn (λz=>by rw[z,nZ]at g;cases g) (R.iY h hi q))⟩
end
section
variable{b:Bc}{d:Nat}{J zt zb zy:St}{D D':Dt}{i j n p x:Nat}{nu num:Int}{main xr at_ pa:V}{L:Loc}
theorem YF{zv:St}{l:List O}:Gr zv (zv++l):=⟨by rw[JO];exact Hy _ _,λr hr=>Hu hr⟩
noncomputable def tH(n:Nat)(nu:Int)(C xr pa at_:V):List O:=[.inst 228 (mf (n+1) (n+2) (n+3) (n+4) (n+5) (.int nu) C .none xr JQ pa at_ .none .none),.dict [],.dict [],.dict [],.list [],.list []]
theorem Uc(R:RI J D)(hw:J[D.w]?=JS (.inst 899 (wf D.w num D.zE main)))(PH:isNone pa=JS JT):XB ⟨b,JT,JT,d+3⟩ [(3,.ref D.w),(0,xr),(21,.bool JQ),(11,pa),(42,.none),(41,at_)] (.cons (.asg 18 (.zl (.loc 3) 38 (.cons (.ite (.loc 21) (.str [67,108,97,115,115]) (.str [77,111,100,117,108,101])) .nil))) (.cons (.cond (.and (.cons (.loc 21) (.cons (.cmp .is (.loc 11) .none) .nil))) (.cons (.asg 11 (.zl (.loc 3) 38 (.cons (.str [79,98,106,101,99,116]) .nil))) .nil) .nil) (.cons (.asg 96 (.ite (.or (.cons (.cmp .is (.loc 42) .none) (.cons (.call (.zu 85) (.cons (.loc 42) (.cons (.zl (.loc 3) 38 (.cons (.str [79,98,106,101,99,116]) .nil)) .nil))) .nil))) .none (.loc 42))) (.cons (.asg 4 (.call (.zu 44) (.cons (.zl (.loc 3) 17 .nil) (.cons (.loc 18) (.cons (.loc 0) (.cons (.loc 21) (.cons (.loc 11) (.cons (.loc 96) .nil)))))))) (.cons (.zC (.loc 4) 41 (.loc 41)) (.cons (.ret (.loc 4)) .nil)))))) J (.ok (.ret (.ref J.length)) [(3,.ref D.w),(0,xr),(21,.bool JQ),(11,pa),(42,.none),(41,at_),(18,.ref (D.ad 4)),(96,.none),(4,.ref J.length)] (J.set D.w (.inst 899 (wf D.w (num+1) D.zE main))++tH J.length (num+1) (.ref (D.ad 4)) xr pa at_)):=by obtain len:(J.set D.w (.inst 899 (wf D.w (num+1) D.zE main))).length=J.length:=IB;obtain x3:=yu (F:=⟨b,JT,JT,d+3⟩) (L:=[(3,.ref D.w),(0,xr),(21,.bool JQ),(11,pa),(42,.none),(41,at_),(18,.ref (D.ad 4)),(96,.none)]) (x:=4) (y6 (fm:=.zu 44) (yp rfl) (zp (yo (zx (x:=3) rfl) (xS (x:=17) hw rfl rfl) zf (cZ hw)) (zp (zx (x:=18) rfl) (zp (zx (x:=0) rfl) (zp (zx (x:=21) rfl) (zp (zx (x:=11) rfl) (zp (zx (x:=96) rfl) zf)))))) (MN (d:=d)));obtain x4:=xn (b:=b) (d:=d+3) (q:=JT) (J:=J.set D.w (.inst 899 (wf D.w (num+1) D.zE main))) (L:=[(3,.ref D.w),(0,xr),(21,.bool JQ),(11,pa),(42,.none),(41,at_),(18,.ref (D.ad 4)),(96,.none),(4,.ref (J.set D.w (.inst 899 (wf D.w (num+1) D.zE main))).length)]) (c:=228) (rest:=[.dict [],.dict [],.dict [],.list [],.list []]) (fs:=mf ((J.set D.w (.inst 899 (wf D.w (num+1) D.zE main))).length+1) ((J.set D.w (.inst 899 (wf D.w (num+1) D.zE main))).length+2) ((J.set D.w (.inst 899 (wf D.w (num+1) D.zE main))).length+3) ((J.set D.w (.inst 899 (wf D.w (num+1) D.zE main))).length+4) ((J.set D.w (.inst 899 (wf D.w (num+1) D.zE main))).length+5) (.int (num+1)) (.ref (D.ad 4)) .none xr JQ pa .none .none .none) (x:=41) (y:=4) rfl (zx (x:=41) rfl) rfl rfl;rw[len]at x3 x4;exact zr (yu (yo (zx rfl) (xS hw rfl rfl) (zp (wq (zx rfl) zV) zf) (cj (j:=4) (by decide) R))) (zr (zO (w5 (zx rfl) (uh (zZ (zx rfl) zQ (yX PH)))) zj) (zr (yu (wq (sd (zZ (zx rfl) zQ (yX rfl))) zQ)) (zr x3 (zr x4 (zT (zL (zx rfl)))))))
structure Ex(D D':Dt):Prop where
 w:D'.w=D.w
 kn:D'.kn=D.kn
 T:D'.T=D.T
 o:∀x,D.on x=true->D'.on x=true/\D'.ad x=D.ad x
 o7:D'.on 7=D.on 7
theorem Ex.re:Ex D D:=⟨rfl,rfl,rfl,λzz h=>⟨h,rfl⟩,rfl⟩
theorem Ex.tr{D1:Dt}(a:Ex D D1)(c:Ex D1 D'):Ex D D':=⟨c.w.trans a.w,c.kn.trans a.kn,c.T.trans a.T,λx h=>let⟨h1,e1⟩:=a.o x h;let⟨h2,e2⟩:=c.o x h1;⟨h2,e2.trans e1⟩,c.o7.trans a.o7⟩
theorem Ex.mk'(yI:D.on j=JT)(h7:j≠7):Ex D (D.mk' j n nu):=⟨rfl,rfl,rfl,λx h=>⟨by rw[vH (ky yI h)];exact h,wZ (ky yI h)⟩,vH h7.symm⟩
theorem NO{i j:Nat}(h:yr i=JS j):yG j=match yG i with|.str s=>.str (s++[46])|v=>v:=by
 obtain hi:i<22:=I6 λq=>by rw[yr,rI q]at h;cases h
 obtain this:∀i<22,(match yr i with|JS j=>zR (match yG j with|.str s=>1::s|_=>[]) (match yG i with|.str s=>1::(s++[46])|_=>[])|none=>JQ)=JQ:=by decide+kernel
 obtain this:=this i hi;rw[h]at this;have:=xj.mp this;obtain nv:∀i,yG i=.none\/∃s,yG i=.str s:=λi=>by
  unfold yG;split;.exact .inr ⟨_,rfl⟩
  .exact .inl rfl
 rcases nv j with e|⟨s,e⟩<;>rcases nv i with e'|⟨s',e'⟩<;>rw[e,e']at this⊢;.cases this
 .cases this
 .cases this;rfl
theorem Ud(R:RI J D)(ho:yr i=JS j)(hi:D.on i=JQ)(yI:D.on j=JT)(hp:par j=JS p)(qj:D.on p=JQ):X2 λzy nu=>C3 (XB ⟨b,JT,JT,d+4⟩ [(1,.ref D.w),(6,.ref (D.ad i)),(11,.ref (D.ad p))] (.cons (.zC (.loc 6) 24 (.zl (.loc 1) 55 (.cons .none (.cons (.bool JQ) (.cons (.loc 11) (.cons .none (.cons (.loc 6) .nil))))))) (.cons (.cond (.and (.cons (.call (.zu 23) (.cons (.loc 6) (.cons (.zu 44) .nil))) (.cons (.cmp .yS (.attr (.loc 6) 34) .none) (.cons (.not (.zl (.loc 6) 72 .nil)) .nil)))) (.cons (.zC (.attr (.loc 6) 24) 34 (.bin .add (.attr (.loc 6) 34) (.str [46]))) .nil) .nil) (.cons (.expr (.call (.zu 74) (.cons (.loc 1) .nil))) (.cons (.ret (.attr (.loc 6) 24)) .nil)))) J (.ok (.ret (.ref J.length)) [(1,.ref D.w),(6,.ref (D.ad i)),(11,.ref (D.ad p))] zy)) (RI zy (D.mk' j J.length nu)) (Lo D J zy):=by
 obtain⟨num,main,hw,hn⟩:=R.wo;obtain⟨c,fs,h1,hc,hl,hr,h2⟩:=R.tm hi;have la:=(R.s.lo i hi).1;have sV:=sA hc;have hlen:=y0 h1;obtain pS:=y0 hw;obtain len:(J.set D.w (.inst 899 (wf D.w (num+1) D.zE main))).length=J.length:=IB;obtain s5:=Uc (b:=b) (d:=d) (xr:=.none) (at_:=.ref (D.ad i)) (pa:=.ref (D.ad p)) R hw rfl;obtain g2:=YF (zv:=J.set D.w (.inst 899 (wf D.w (num+1) D.zE main))) (l:=tH J.length (num+1) (.ref (D.ad 4)) .none (.ref (D.ad p)) (.ref (D.ad i)));obtain ti:=g2.get (get_set (o:=.inst 899 (wf D.w (num+1) D.zE main)) hw);have Xi:=g2.get (zK (o:=.inst 899 (wf D.w (num+1) D.zE main)) h1 (by lia));have at_:∀{k:Nat}{o:O},(tH J.length (num+1) (.ref (D.ad 4)) .none (.ref (D.ad p)) (.ref (D.ad i)))[k]?=JS o->(J.set D.w (.inst 899 (wf D.w (num+1) D.zE main))++tH J.length (num+1) (.ref (D.ad 4)) .none (.ref (D.ad p)) (.ref (D.ad i)))[J.length+k]?=JS o:=λ{k o}h=>by rewrite[I_ (by rw[len];exact Hy _ _)];rewrite[len];rw[Fu];exact h
 obtain b0:=at_ (k:=0) rfl;obtain b2:=at_ (k:=2) rfl;obtain b4:=at_ (k:=4) rfl;obtain b5:=at_ (k:=5) rfl;obtain k2:Bt [D.w,D.ad i] J (J.set D.w (.inst 899 (wf D.w (num+1) D.zE main))++tH J.length (num+1) (.ref (D.ad 4)) .none (.ref (D.ad p)) (.ref (D.ad i))):=(Bt.re.set _ (.inl (.head _))).tr (.of g2);generalize J.set D.w (.inst 899 (wf D.w (num+1) D.zE main))++tH J.length (num+1) (.ref (D.ad 4)) .none (.ref (D.ad p)) (.ref (D.ad i))=zv at*;have Xw:xi c 24=JQ:=by rcases hc with rfl|rfl<;>rfl
 have P6:short fs=JQ:=by
  by_cases hm:i<18;.obtain⟨kp,a1,a3,q,_⟩:=R.oo i hi hm;replace q:=yc h1 q;cases q;rfl
  .obtain⟨a,q⟩:=R.th i hi (IU hm);replace q:=yc h1 q;cases q;rfl
 have x5:=rE (F:=⟨b,JT,JT,d+4⟩) (L:=[(1,.ref D.w),(6,.ref (D.ad i)),(11,.ref (D.ad p))]) rfl (yo (zx (x:=1) rfl) (xS (x:=55) hw rfl rfl) (zp zQ (zp sR (zp (zx (x:=11) rfl) (zp zQ (zp (zx (x:=6) rfl) zf))))) (zI rfl rfl s5)) (zx (x:=6) rfl) Xi Xw P6;have rY:=get_set (o:=.inst c (st 24 (.ref J.length) fs)) Xi;have lv:lk 24 (st 24 (.ref J.length) fs)=JS (.ref J.length):=yz;have nn:D.ad i≠J.length:=by lia
 have b0:(zv.set (D.ad i) (.inst c (st 24 (.ref J.length) fs)))[J.length]?=_:=zK b0 nn;have b2:(zv.set (D.ad i) (.inst c (st 24 (.ref J.length) fs)))[J.length+2]?=_:=zK b2 (by lia);have b4:(zv.set (D.ad i) (.inst c (st 24 (.ref J.length) fs)))[J.length+4]?=_:=zK b4 (by lia);have b5:(zv.set (D.ad i) (.inst c (st 24 (.ref J.length) fs)))[J.length+5]?=_:=zK b5 (by lia);obtain eG:(zv.set (D.ad i) (.inst c (st 24 (.ref J.length) fs)))[D.w]?=_:=zK ti (by lia);have k3:Bt [D.w,D.ad i] J (zv.set (D.ad i) (.inst c (st 24 (.ref J.length) fs))):=k2.set _ (.inl (.tail _ (.head _)));generalize zv.set (D.ad i) (.inst c (st 24 (.ref J.length) fs))=wI at*;have fin:∀wR,X1 ⟨b,JT,JT,d+4⟩ [(1,.ref D.w),(6,.ref (D.ad i)),(11,.ref (D.ad p))] (.cond (.and (.cons (.call (.zu 23) (.cons (.loc 6) (.cons (.zu 44) .nil))) (.cons (.cmp .yS (.attr (.loc 6) 34) .none) (.cons (.not (.zl (.loc 6) 72 .nil)) .nil)))) (.cons (.zC (.attr (.loc 6) 24) 34 (.bin .add (.attr (.loc 6) 34) (.str [46]))) .nil) .nil) wI (.ok .next [(1,.ref D.w),(6,.ref (D.ad i)),(11,.ref (D.ad p))] wR)->Bt [D.w,D.ad i] J wR->wR[J.length]?=JS (.inst 228 (mJ D i j J.length p (num+1)))->(∀r o,wI[r]?=JS o->r≠J.length->wR[r]?=JS o)->X2 λzy nu=>C3 (XB ⟨b,JT,JT,d+4⟩ [(1,.ref D.w),(6,.ref (D.ad i)),(11,.ref (D.ad p))] (.cons (.zC (.loc 6) 24 (.zl (.loc 1) 55 (.cons .none (.cons (.bool JQ) (.cons (.loc 11) (.cons .none (.cons (.loc 6) .nil))))))) (.cons (.cond (.and (.cons (.call (.zu 23) (.cons (.loc 6) (.cons (.zu 44) .nil))) (.cons (.cmp .yS (.attr (.loc 6) 34) .none) (.cons (.not (.zl (.loc 6) 72 .nil)) .nil)))) (.cons (.zC (.attr (.loc 6) 24) 34 (.bin .add (.attr (.loc 6) 34) (.str [46]))) .nil) .nil) (.cons (.expr (.call (.zu 74) (.cons (.loc 1) .nil))) (.cons (.ret (.attr (.loc 6) 24)) .nil)))) J (.ok (.ret (.ref J.length)) [(1,.ref D.w),(6,.ref (D.ad i)),(11,.ref (D.ad p))] zy)) (RI zy (D.mk' j J.length nu)) (Lo D J zy):=λwR x6 k4 b0 same=>by
  have Xg:=same _ _ eG (by lia);have P0:=same _ _ rY nn;have k5:Bt [D.w,D.ad i] J (wR.set D.w (.inst 899 (wf D.w (num+1) (D.zE+1) main))):=k4.set _ (.inl (.head _));have eH:(wR.set D.w (.inst 899 (wf D.w (num+1) (D.zE+1) main)))[D.ad i]?=_:=zK P0 (by lia);refine⟨wR.set D.w (.inst 899 (wf D.w (num+1) (D.zE+1) main)),num+1,zr x5 (zr x6 (zr (yJ (yC rfl (zx rfl) (kZ Xg))) (zT (zL (zM (zx rfl) eH Xw lv))))),R.k9 ho hi yI hp qj hn (JK _) k5 (get_set Xg) ?_ (zK b0 (by lia)) (zK (same _ _ b2 (by lia)) (by lia)) (zK (same _ _ b4 (by lia)) (by lia)) (zK (same _ _ b5 (by lia)) (by lia)),k5.lo λr m=>?_⟩
  .by_cases hm:i<18;.rw[if_pos hm];obtain⟨kp,a1,a3,q,e⟩:=R.oo i hi hm;replace q:=yc h1 q;cases q;exact⟨kp,a1,a3,eH,e⟩
   .rw[if_neg hm];obtain⟨a,q⟩:=R.th i hi (IU hm);replace q:=yc h1 q;cases q;exact⟨a,eH⟩
  .rcases JJ.mp m with z|z;.lia
   .rw[JP.mp z];lia
 obtain nj:=NO ho;have wF:yT i=none:=kC (qZ ho).2;by_cases hm:i<18
 .have:=hl hm;subst this;obtain⟨kp,a1,a3,q1,_⟩:=R.oo i hi hm;replace q1:=yc h1 q1;cases q1;have e0:=yY (F:=⟨b,JT,JT,d+4⟩) (L:=[(1,.ref D.w),(6,.ref (D.ad i)),(11,.ref (D.ad p))]) (x:=.loc 6) (y:=.zu 44) (g:=23) rfl (zx rfl) (yp rfl) (tf rY sV (t:=JQ) rfl rfl);obtain ln:lk 34 (st 24 (.ref J.length) (D.w_ i a1 a3 kp))=JS (yG i):=rfl;by_cases hz:yG i=.none;.rw[hz]at nj;rw[hz]at ln;refine fin wI (zO (w5 e0 (tR (zZ (zM (zx rfl) rY rfl ln) zQ (v8 rfl)))) zj) k3 ?_ λzz zz h zz=>h;unfold mJ;rw[nj];exact b0
  .obtain⟨s,hs⟩:∃s,yG i=.str s:=by
    revert hz;unfold yG;split;.exactλzz=>⟨_,rfl⟩
    .exactλh=>absurd rfl h
   rw[hs]at nj ln;have P8:short (s++[46])=JQ:=by
    have:∀i<18,(match yG i with|.str s=>short (s++[46])|_=>JQ)=JQ:=by decide+kernel
    have:=this i hm;rw[hs]at this;exact this
   obtain la:lk 41 (st 24 (.ref J.length) (D.w_ i a1 a3 kp))=JS .none:=(show _=JS (D.opt (yT i))from rfl).trans (by rw[wF];rfl);refine fin _ (ye (w5 e0 (w5 (zZ (zM (zx rfl) rY rfl ln) zQ (tS rfl)) (uh (vM (yo (zx rfl) (xS rY rfl rfl) zf (W' (t:=JQ) rY la rfl)))))) (zr (rE rfl (yh (zM (zx rfl) rY rfl ln) zV (u9 P8)) (zM (zx rfl) rY rfl lv) b0 rfl rfl) zj)) (k3.set _ (.inr (JK _))) ?_ λr o h n=>zK h (Hk n);unfold mJ;rw[nj];exact get_set b0
 .obtain⟨f9,_⟩:=hr (IU hm);subst f9;have e0:=yY (F:=⟨b,JT,JT,d+4⟩) (L:=[(1,.ref D.w),(6,.ref (D.ad i)),(11,.ref (D.ad p))]) (x:=.loc 6) (y:=.zu 44) (g:=23) rfl (zx rfl) (yp rfl) (tf rY sV (t:=JT) rfl rfl);have hz:yG i=.none:=by
   unfold yG;obtain h1:¬(Io i 5||(JG i 13||JG i 14))=JQ:=by
    rcases R.s.bd i hi with h|rfl|rfl;.exact absurd h hm
    .decide
    .decide
   rw[if_neg h1]
  rw[hz]at nj;refine fin wI (zO (tR e0) zj) k3 ?_ λzz zz h zz=>h;unfold mJ;rw[nj];exact b0
end
theorem cw{i j:Nat}(h:yr i=JS j):match(if Io i 18&&yf i then par i else none)with|JS p=>∃k,C4 (yr p=JS k) (par j=JS k) (p<18) (rank p<rank i)|none=>par j=JS (if Io i 18 then(if yf i then 4 else 3)else i-15):=by
 have hi:i<22:=I6 λq=>by rw[yr,rI q]at h;cases h
 obtain this:∀i<22,(match yr i with|JS j=>(match(if Io i 18&&yf i then par i else none)with|JS p=>(match yr p with|JS k=>par j==JS k&&(Io p 18&&Io (rank p) (rank i))|none=>JT)|none=>par j==JS (if Io i 18 then(if yf i then 4 else 3)else i-15))|none=>JQ)=JQ:=by decide+kernel
 obtain this:=this i hi;rw[h]at this;cases q:(if Io i 18&&yf i then par i else none)with|none=>rw[q]at this;exact eq_of_beq this|some p=>rw[q]at this;cases q2:yr p with|none=>simp only[q2]at this;cases this|some k=>simp only[q2]at this;obtain⟨h1,this⟩:=zh this;obtain⟨h2,h3⟩:=zh this;exact⟨k,q2,eq_of_beq h1,JA h2,JA h3⟩
section
variable{b:Bc}
noncomputable def mV(b:Bc)(d:Nat)(J:St)(D:Dt)(i j:Nat):Prop:=X2 λD' zy=>C6 (Call ⟨b,JT,JT,d⟩ (.fn 474) [.ref D.w,.ref (D.ad i)] J (.ok (.ref (D'.ad j)) zy)) (RI zy D') (D'.on j=JQ) (Lo D J zy) (Ex D D') (∀x,D'.on x=JQ->D.on x=JQ\/rank x<=rank j)
theorem Vr{d i j:Nat}{J:St}{D:Dt}(R:RI J D)(hi:D.on i=JQ)(ho:yr i=JS j)(IH:∀p k,par i=JS p->p<18->rank p<rank i->i<18->yr p=JS k->D.on p=JQ->mV b (d+4) J D p k):mV b (d+5) J D i j:=by
 obtain⟨c,fs,h1,hc,hl,hr,h2⟩:=R.tm hi;have hp:=sA hc;have hk:xi c 24=JQ:=by rcases hc with rfl|rfl<;>rfl
 have t0:prog.sub c 40=JQ:=by rcases hc with rfl|rfl<;>rfl
 have s0:=zO (F:=⟨b,JT,JT,d+4⟩) (L:=[(1,.ref D.w),(6,.ref (D.ad i))]) (c:=(.or (.cons (.cmp .is (.loc 6) .none) (.cons (.call (.zu 23) (.cons (.loc 6) (.cons (.zu 112) .nil))) .nil)))) (a:=(.cons (.ret (.zl (.loc 1) 100 (.cons (.loc 6) .nil))) .nil)) (b:=.nil) (uP (zZ (zx (x:=6) rfl) zQ (yX rfl)) (uO (yY (g:=23) rfl (zx (x:=6) rfl) (yp (x:=112) rfl) (pQ h1 hp rfl)))) zj;have s1:=zO (F:=⟨b,JT,JT,d+4⟩) (L:=[(1,.ref D.w),(6,.ref (D.ad i))]) (c:=(.not (.call (.zu 23) (.cons (.loc 6) (.cons (.zu 64) .nil))))) (a:=(.cons (.expr (.zl (.loc 1) 57 (.cons (.str [84,121,112,101,69,114,114,111,114]) (.cons (.str [99,97,110,39,116,32,100,101,102,105,110,101,32,115,105,110,103,108,101,116,111,110]) .nil)))) .nil)) (b:=.nil) (vM (yY (g:=23) rfl (zx (x:=6) rfl) (yp (x:=64) rfl) (tf h1 hp rfl t0))) zj;have i2:=zZ (F:=⟨b,JT,JT,d+4⟩) (L:=[(1,.ref D.w),(6,.ref (D.ad i))]) (zM (zx (x:=6) rfl) h1 hk h2) zQ (ri (cz _));cases yI:D.on j with
 |true=>
  have hf:(yr i).filter D.on=JS j:=by rewrite[ho];rewrite[IE];rw[if_pos yI]
  rw[hf]at i2;rw[(ku hf).1]at h2;exact⟨D,J,zI rfl rfl (zr s0 (zr s1 (zT (ye i2 (zT (zL (zM (zx rfl) h1 hk h2))))))),R,yI,Kp.re.lo,.re,λx h=>.inl h⟩
 |false=>
  have hf:(yr i).filter D.on=none:=by rewrite[ho];rewrite[IE];rw[if_neg (by rw[yI];exact IZ)]
  rw[hf]at i2;obtain⟨o,o1,o2,co⟩:=W4 (b:=b) (d:=d+3) R hi;obtain⟨num,main,hw,_⟩:=R.wo;have s3:=yu (x:=11) (yo (F:=⟨b,JT,JT,d+4⟩) (L:=[(1,.ref D.w),(6,.ref (D.ad i))]) (zx (x:=1) rfl) (xS (x:=100) hw rfl rfl) (zp (zx (x:=6) rfl) zf) co);obtain op:=cw ho;have j7:j≠7:=by obtain this:=(qZ ho).1;lia
  have plain:∀q,par j=JS q->o=q->D.on q=JQ->X1 ⟨b,JT,JT,d+4⟩ [(1,.ref D.w),(6,.ref (D.ad i)),(11,.ref (D.ad o))] (.cond (.and (.cons (.call (.zu 23) (.cons (.loc 6) (.cons (.zu 44) .nil))) (.cons (.attr (.loc 6) 21) (.cons (.cmp .yS (.attr (.loc 6) 11) .none) .nil)))) (.cons (.asg 11 (.call (.zu 68) (.cons (.loc 1) (.cons (.attr (.loc 6) 11) .nil)))) .nil) .nil) J (.ok .next [(1,.ref D.w),(6,.ref (D.ad i)),(11,.ref (D.ad o))] J)->mV b (d+5) J D i j:=λq hq e yb s4=>by
   subst e;obtain⟨zy,nu,k,R',lo⟩:=Ud (b:=b) (d:=d) R ho hi yI hq yb;have hj:(D.mk' j J.length nu).ad j=J.length:=lB;exact⟨D.mk' j J.length nu,zy,by rw[hj];exact zI rfl rfl (zr s0 (zr s1 (zr (zO i2 zj) (zr s3 (zr s4 k))))),R',lA,lo,.mk' yI j7,λx h=>by
    by_cases e:x=j;.rw[e];exact .inr (JK _)
    .rw[vH e]at h;exact .inl h⟩
  by_cases hm:i<18
  .have:=hl hm;subst this;have qz:Io i 18=JQ:=Iw hm;rw[qz,G4]at op;obtain⟨xF,xD,_,_,h4,h5,_⟩:=R.nM hi hm;replace xD:=yc h1 xD;cases xD;have e0:=yY (F:=⟨b,JT,JT,d+4⟩) (L:=[(1,.ref D.w),(6,.ref (D.ad i)),(11,.ref (D.ad o))]) (x:=.loc 6) (y:=.zu 44) (g:=23) rfl (zx rfl) (yp rfl) (tf h1 hp (t:=JQ) rfl rfl);obtain o1:=o1 hm;cases wM:yf i with
   |false=>rw[wM]at op h4 o1;exact plain 3 op o1 (R.s.om 3 (by decide) (by decide)) (zO (w5 e0 (tR (zM (zx rfl) h1 rfl h4))) zj)
   |true=>
    rw[wM]at op h4 o1;cases hq:par i with
    |none=>rw[hq]at op h5;exact plain 4 op o1 (R.s.om 4 (by decide) (by decide)) (zO (w5 e0 (w5 (zM (zx rfl) h1 rfl h4) (uh (zZ (zM (zx rfl) h1 rfl h5) zQ (v8 rfl))))) zj)
    |some p=>
     obtain yb:=R.s.pm i p hi hq;rw[hq]at op h5;rw[tF yb]at h5;obtain⟨k,p1,p2,p3,p4⟩:=op;obtain⟨D1,z8,c1,R1,q1,lo1,lz,rk⟩:=IH p k hq p3 p4 hm p1 yb;have Xo:D1.on j=JT:=by
      cases q:D1.on j with
      |false=>rfl
      |true=>
       rcases rk j q with z|z;.replace z:=yI.symm.trans z;cases z
       .obtain this:=vF p2;lia
     obtain⟨zy,nu,kx,R',lo⟩:=Ud (b:=b) (d:=d) R1 ho (lz.o i hi).1 Xo p2 q1;rw[lz.w,(lz.o i hi).2]at kx;obtain hj:(D1.mk' j z8.length nu).ad j=z8.length:=lB;refine⟨D1.mk' j z8.length nu,zy,by rw[hj];exact zI rfl rfl (zr s0 (zr s1 (zr (zO i2 zj) (zr s3 (zr (ye (w5 e0 (w5 (zM (zx rfl) h1 rfl h4) (uh (zZ (zM (zx rfl) h1 rfl h5) zQ (tS rfl))))) (zr (yu (yY (g:=68) rfl (zx rfl) (zM (zx rfl) h1 rfl h5) c1)) zj)) kx))))),R',lA,lo1.tr lo lz.w,lz.tr (.mk' Xo j7),λx h=>?_⟩;by_cases e:x=j;.rw[e];exact .inr (JK _)
     .rw[vH e]at h;exact(rk x h).imp id λz=>by obtain this:=vF p2;lia
  .obtain⟨f9,_⟩:=hr (IU hm);subst f9;have qz:Io i 18=JT:=by cases q:Io i 18 with|false=>rfl|true=>exact absurd (JA q) hm
   rw[qz]at op;obtain e0:=yY (F:=⟨b,JT,JT,d+4⟩) (L:=[(1,.ref D.w),(6,.ref (D.ad i)),(11,.ref (D.ad o))]) (x:=.loc 6) (y:=.zu 44) (g:=23) rfl (zx rfl) (yp rfl) (tf h1 hp (t:=JT) rfl rfl);exact plain (i-15) op (o2 (IU hm)) (by rcases R.s.bd i hi with h|rfl|rfl;exact absurd h hm;exact R.s.om 5 (by decide) (by decide);exact R.s.om 6 (by decide) (by decide)) (zO (tR e0) zj)
theorem Vs(d:Nat):∀(n:Nat){i j:Nat}{J:St}{D:Dt},(i<18->rank i<=n)->RI J D->D.on i=JQ->yr i=JS j->mV b (d+(n+5)) J D i j|0,zo,zY,zH,ya,hr,R,hi,ho=>Vr R hi ho λzz zz zz zz h3 h4 zz zz=>by have:=hr h4;lia|n+1,zo,zY,zH,ya,hr,R,hi,ho=>Vr (d:=d+(n+1)) R hi ho λzz zz zz h2 h3 h4 h5 h6=>Vs d n (λzz=>by have:=hr h4;lia) R h6 h5
theorem cY{d i j:Nat}{J:St}{D:Dt}(R:RI J D)(hi:D.on i=JQ)(ho:yr i=JS j):mV b (d+12) J D i j:=Vs d 7 (λh=>kY h) R hi ho
end
noncomputable def z6:Nat->List Nat:=tab [] [[66,97,115,105,99,79,98,106,101,99,116],[75,101,114,110,101,108],[79,98,106,101,99,116],[77,111,100,117,108,101],[67,108,97,115,115],[65],[66],[67],[77],[78],[60,97,62],[60,99,62],[60,77,62],[60,66,97,115,105,99,79,98,106,101,99,116,62],[60,79,98,106,101,99,116,62],[60,65,62],[60,66,62],[60,67,62]]
noncomputable def zU(i:Nat):V:=.str (z6 i)
noncomputable def xQ(h:z7):V:=.tup [match h.b with|JS t=>.str t|none=>.none,zU h.o,.str h.s,.str h.n]
noncomputable def xR:Option z7->V|JS h=>xQ h|none=>.none
structure Mt where
 m:Nat
 ro:Nat->Nat
 la:Bool->Nat->Nat
 da:Nat->Nat
 x:Nat
 xs:List V
noncomputable def Mt.dict(Q:Mt):List (List Nat×V):=(IF 18).map λi=>(z6 i,V.ref (Q.ro i))
noncomputable def Mt.row(Q:Mt)(i:Nat):List V:=[match par i with|JS p=>zU p|none=>.none,.ref (Q.la JQ i),.ref (Q.la JT i),.ref (Q.da i)]
structure MI(Q:Mt)(lim:Nat)(J:St)(T:Tb):Prop where
 m:J[Q.m]?=some (.dict Q.dict)
 r:∀i<18,J[Q.ro i]?=some (.list (Q.row i))
 l:∀i c,i<18->J[Q.la c i]?=some (.list (((T i).li c).map zU))
 d:∀i<18,J[Q.da i]?=some (.dict (yF xQ (T i).ms))
 lt:Q.m<lim/\∀i<18,C3 (Q.ro i<lim) (∀c,Q.la c i<lim) (Q.da i<lim)
 jl:∀i j c e,i<18->j<18->Q.la c i=Q.la e j->i=j/\c=e
 jr:∀i j c,i<18->j<18->Q.ro i≠Q.la c j
 jd:∀i j,i<18->j<18->Q.da i=Q.da j->i=j
 jm:∀i<18,Q.da i≠Q.m
 w:WF T
 x:J[Q.x]?=some (.list Q.xs)
 lx:Q.x<lim
 jx:∀i c,i<18->Q.la c i≠Q.x
noncomputable def za(l:List Nat):List V:=l.map zU
theorem nI{i j:Nat}(hi:i<18)(hj:j<18):zR (z6 i) (z6 j)=(i==j):=by
 obtain this:∀i<18,∀j<18,zR (z6 i) (z6 j)=(i==j):=by decide+kernel
 exact this i hi j hj
theorem kT(l:List Nat):strsOf (za l)=JS (l.map z6):=by induction l with|nil=>rfl|cons x l ih=>show(strsOf (za l)).map (z6 x::.)=_;rw[ih];rfl
theorem mP{x:Nat}(hx:x<18):∀{l:List Nat},(∀y∈l,y<18)->(l.map z6).any (zR (z6 x))=l.contains x|[],zo=>rfl|y::l,h=>by rewrite[It];rewrite[List.any_cons];rewrite[Iy];rewrite[nI hx (h y (.head _))];rw[mP hx λz hz=>h z (.tail _ hz)]
theorem Rc{f:Nat->Nat}{i:Nat}(hi:i<18):zG (z6 i) ((IF 18).map λi=>(z6 i,V.ref (f i)))=JS (.ref (f i)):=by
 obtain go:∀l:List Nat,(∀y∈l,y<18)->i∈l->zG (z6 i) (l.map λi=>(z6 i,V.ref (f i)))=JS (.ref (f i)):=by intro l;induction l with|nil=>intro _ h;cases h|cons y l ih=>intro hl hm;show(match zR (z6 i) (z6 y)with|JQ=>JS (V.ref (f y))|JT=>zG (z6 i) (l.map λi=>(z6 i,V.ref (f i))))=_;rw[nI hi (hl y (.head _))];cases q:i==y with|true=>rw[eq_of_beq q]|false=>exact ih (λz hz=>hl z (.tail _ hz)) ((JJ.mp hm).resolve_left λe=>by rw[e,beq_self_eq_true]at q;cases q)
 exact go _ (λy hy=>Hw.mp hy) (Hw.mpr hi)
section
variable{b:Bc}{d lim:Nat}{q:Bool}{J zt zy:St}{T T':Tb}{Q:Mt}{i:Nat}{k:List Nat}{L:Loc}
theorem MI.to(M:MI Q lim J T)(k:∀(r:Nat)(o:O),r<lim->pC o=JQ->J[r]?=JS o->zy[r]?=JS o):MI Q lim zy T:=⟨k _ _ M.lt.1 rfl M.m,λi h=>k _ _ (M.lt.2 i h).1 rfl (M.r i h),λi c h=>k _ _ ((M.lt.2 i h).2 c) rfl (M.l i c h),λi h=>k _ _ (M.lt.2 i h).3 rfl (M.d i h),M.lt,M.jl,M.jr,M.jd,M.jm,M.w,k _ _ M.lx rfl M.x,M.lx,M.jx⟩
theorem MI.gr(M:MI Q lim J T)(g:Gr J zy):MI Q lim zy T:=M.to λzz zz zz zz h=>g.get h
theorem oG(M:MI Q lim J T)(hi:i<18){e e':Mine.M}{j:Nat}{v:V}(l1:lk 7 L=JS (.ref Q.m))(he:E ⟨b,JT,q,d⟩ L e J (.ok (zU i) J))(hj:E ⟨b,JT,q,d⟩ L e' J (.ok (.int j) J))(hv:(Q.row i)[j]?=JS v)(h4:j<5):E ⟨b,JT,q,d⟩ L (.sub (.sub (.loc 7) e) e') J (.ok v J):=yL (yL (zx l1) he (n8 (.inl M.m) (Rc hi))) hj (tA (M.r i hi) hv (Hm h4 (by decide)))
theorem iJ{l:Nat}{ns:List Nat}(M:MI Q lim J T)(hl:J[l]?=JS (.list (za ns)))(hn:∀y∈ns,y<18):Call ⟨b,JT,JT,d+1⟩ (.fn 927) [.ref Q.m,.ref l,.str k] J (.ok (xR (zJ T k ns)) J):=by
 obtain⟨L',zy,z⟩:=FL.go (F:=⟨b,JT,JT,d⟩) (xs:=[5]) (t:=.list l) (b:=(.cons (.asg 13 (.zl (.sub (.sub (.loc 7) (.loc 5)) (.int 3)) 49 (.cons (.loc 8) .nil))) (.cons (.cond (.cmp .yS (.loc 13) .none) (.cons (.ret (.ite (.cmp .is (.sub (.loc 13) (.int 0)) .none) .none (.loc 13))) .nil) .nil) .nil))) (l:=za ns) (zs:=ns) (g:=λzz x=>zU x) (JN _) (λp z h=>by unfold za;rewrite[JF];rw[h];rfl) (P:=λp ys L zv=>C4 (zv=J) (lk 7 L=JS (.ref Q.m)) (lk 8 L=JS (.str k)) (zJ T k ys=zJ T k ns)) (Q:=λv zv=>zv=J/\v=xR (zJ T k ns)) (λp ys L zv h=>h.1▸hl) (by rintro p x ys L zv hp hd⟨rfl,l1,l2,hf⟩;obtain hx:=hn x (J5 hp);obtain hd:=M.d x hx;have h0:=yo (F:=⟨b,JT,JT,d⟩) (L:=st 5 (zU x) L) (oG M hx (zg rfl l1) (zx (x:=5) yz) yw (j:=3) rfl (by decide)) (tQ hd) (zp (zx (zg rfl l2)) zf) (qe (.inl hd));rw[qv]at h0;obtain hf:(match y_ k (T x).ms with|JS h=>live h|none=>zJ T k ys)=zJ T k ns:=hf;cases hh:y_ k (T x).ms with|none=>rw[hh]at h0 hf;exact⟨_,_,zv,rfl,.inl ⟨zr (yu h0) (zr (zO (zZ (zx yz) zQ (v8 rfl)) zj) zj),rfl,zg rfl (zg rfl l1),zg rfl (zg rfl l2),hf⟩⟩|some h=>rw[hh]at h0 hf;obtain hf:live h=zJ T k ns:=hf;refine⟨_,_,zv,rfl,.inr ⟨_,zr (yu h0) (zT (ye (zZ (zx yz) zQ (tS rfl)) (zT (zL (?_:E _ _ _ _ (.ok (xR (live h)) zv)))))),rfl,by rw[<-hf]⟩⟩;have hs:E ⟨b,JT,JT,d⟩ (st 13 (xQ h) (st 5 (zU x) L)) (.cmp .is (.sub (.loc 13) (.int 0)) .none) zv (.ok (.bool h.b.isNone) zv):=zZ (yL (zx yz) yw (vo (j:=0) rfl (by decide))) zQ (yX (by cases h.b<;>rfl));unfold live;cases hb:h.b with|none=>rw[hb]at hs;exact wq hs zQ|some t=>rw[hb]at hs;exact wt hs (zx yz)) ns.length 0 ns [(7,.ref Q.m),(33,.ref l),(8,.str k)] J rfl rfl ⟨rfl,rfl,rfl,rfl⟩;rw[show ns.length=(za ns).length from(JN _).symm]at z;rcases z with⟨c,rfl,_,_,hf⟩|⟨v,c,rfl,rfl⟩;.exact zI rfl rfl (zr (xe (t:=.list l) rfl (zx rfl) hl rfl c) (zT (zL (by rw[<-hf];exact zQ))))
 .exact zI rfl rfl (zT (xe (t:=.list l) rfl (zx rfl) hl rfl c))
end
noncomputable abbrev Pn:=List Int×Nat
noncomputable def vT(x:Pn):uS:=(x.1,z6 x.2)
noncomputable def pv(x:Pn):V:=xh (vT x)
noncomputable def tN(p:List Int)(s:Int)(len:Nat):Nat->List Nat->List Pn|zo,[]=>[]|k,x::r=>(p++[s,(len:Int)-1-k],x)::tN p s len (k+1) r
noncomputable def sQ(T:Tb)(p:List Int)(i:Nat):List Pn:=tN p 0 ((T i).li JQ).length 0 ((T i).li JQ)++tN p 2 ((T i).li JT).length 0 ((T i).li JT)
noncomputable def sE(T:Tb):Nat->List Pn->List Pn->Option (List Pn)|0,zo,zY=>none|zo+1,f,[]=>JS f|n+1,f,x::w=>sE T n (f++[(x.1++[1],x.2)]) ((sQ T x.1 x.2).reverse++w)
noncomputable def LP(Q:Mt)(fa wa:Nat)(p:List Int)(i:Nat)(L:Loc):Prop:=C5 (lk 7 L=JS (.ref Q.m)) (lk 4 L=JS (.ref fa)) (lk 50 L=JS (.ref wa)) (lk 32 L=JS (.tup (p.map V.int))) (lk 5 L=JS (zU i))
noncomputable def N5(x:Nat):Bool:=JG 7 x||(JG 4 x||(JG 50 x||(JG 32 x||JG 5 x)))
section
variable{b:Bc}{d lim:Nat}{q:Bool}{J yx zt zy zv:St}{T T':Tb}{Q:Mt}{i fa wa:Nat}{k:List Nat}{L:Loc}{p:List Int}
theorem LP.st{x:Nat}{v:V}(h:LP Q fa wa p i L)(hx:N5 x=JT):LP Q fa wa p i (st x v L):=by obtain⟨a1,hx⟩:=IS.mp hx;obtain⟨a2,hx⟩:=IS.mp hx;obtain⟨a3,hx⟩:=IS.mp hx;obtain⟨a4,a5⟩:=IS.mp hx;exact⟨zg a1 h.1,zg a2 h.2,zg a3 h.3,zg a4 h.4,zg a5 h.5⟩
theorem ip(s:Int)(len:Nat):∀(l:List Nat)(k:Nat),(tN p s len k l).length=l.length|[],zo=>rfl|x::l,k=>congrArg (.+1) (ip s len l (k+1))
theorem Ub{c:Bool}{s:Int}{j:Nat}{u:List Pn}(hj:1+s/2=(j:Int))(hr:(Q.row i)[j]?=JS (.ref (Q.la c i)))(h5:j<5)(Z:MI Q lim zv T)(hi:i<18)(hw:zv[wa]?=JS (.list (u.map pv)))(hn:∀i<18,∀c,Q.la c i≠wa)(l0:LP Q fa wa p i L)(l1:lk 51 L=JS (.int s))(hu:u.length<=900)(hp:p.length<=900):∃L',XB ⟨b,JT,JT,d⟩ L (.cons (.asg 46 (.sub (.sub (.loc 7) (.loc 5)) (.bin .add (.int 1) (.bin .floordiv (.loc 51) (.int 2))))) (.cons (.for [12] .range (.call (.zu 31) (.cons (.loc 46) .nil)) (.cons (.expr (.zl (.loc 50) 30 (.cons (.tup (.cons (.bin .add (.loc 32) (.tup (.cons (.loc 51) (.cons (.bin .sub (.bin .sub (.call (.zu 31) (.cons (.loc 46) .nil)) (.int 1)) (.loc 12)) .nil)))) (.cons (.sub (.loc 46) (.loc 12)) .nil))) .nil))) .nil)) .nil)) zv (.ok .next L' (zv.set wa (.list ((u++tN p s ((T i).li c).length 0 ((T i).li c)).map pv))))/\LP Q fa wa p i L':=by obtain hl:=Z.l i c hi;have two:=Z.w.two i c;obtain e0:=oG (b:=b) (d:=d) (q:=JT) Z hi l0.1 (zx (x:=5) l0.5) (e':=(.bin .add (.int 1) (.bin .floordiv (.loc 51) (.int 2)))) (by rw[<-hj];exact yh yw (yh (zx l1) yw (oP (by decide) (by decide))) gY) hr h5;obtain⟨L',zk,k,k1,k2,⟨v,k3,k4,k5⟩,k6⟩:=FL.all (F:=⟨b,JT,JT,d⟩) (xs:=[12]) (t:=.range (((T i).li c).map zU).length) (b:=(.cons (.expr (.zl (.loc 50) 30 (.cons (.tup (.cons (.bin .add (.loc 32) (.tup (.cons (.loc 51) (.cons (.bin .sub (.bin .sub (.call (.zu 31) (.cons (.loc 46) .nil)) (.int 1)) (.loc 12)) .nil)))) (.cons (.sub (.loc 46) (.loc 12)) .nil))) .nil))) .nil)) (l:=(IF (((T i).li c).map zU).length).map λ(j:Nat)=>V.int j) (zs:=(T i).li c) (g:=λp zz=>.int p) (by rewrite[JN];rewrite[Hc];rw[JN]) (λp z h=>by obtain this:=(J9.mp h).1;rewrite[JF];rw[FI (by rw[JN];exact this)];rfl) (P:=λm ys L zk=>C4 (LP Q fa wa p i L) (lk 51 L=JS (.int s)) (∃v,C3 (zk=zv.set wa (.list (v.map pv))) (v.length<=u.length+m) (v++tN p s ((T i).li c).length m ys=u++tN p s ((T i).li c).length 0 ((T i).li c))) (lk 46 L=JS (.ref (Q.la c i)))) (λm ys L zk h=>⟨by rw[JN];exact Iw (J4 two (by decide)),by rw[HO]⟩) (by rintro m x ys L zk hm hd⟨l0,l1,⟨v,rfl,hv,hk⟩,l2⟩;have yN:=(J9.mp hm).1;have pT:(zv.set wa (.list (v.map pv)))[wa]?=JS (.list (v.map pv)):=get_set hw;have sY:(zv.set wa (.list (v.map pv)))[Q.la c i]?=_:=zK hl (Hk (hn i hi c));have df:=l0.st (x:=12) (v:=.int m) rfl;obtain len:=yC (F:=⟨b,JT,JT,d⟩) (L:=st 12 (.int m) L) (x:=.loc 46) (g:=31) rfl (zx (zg rfl l2)) (pj sY (xN (by rw[JN];lia)));rw[JN]at len;refine⟨_,_,_,rfl,zr (yJ (yo (zx df.3) (ug pT) (zp (x_ (zp (yh (zx df.4) (x_ (zp (zx (zg rfl l1)) (zp (yh (yh len yw b') (zx yz) b') zf)) rfl) (az (xN (by rewrite[JO];rw[JN];exact FU (J4 hp (by decide:900<=990)) (by decide:2<=10))))) (zp (yL (zx (zg rfl l2)) (zx yz) (tA sY (by rewrite[JF];rw[hm];rfl) (by obtain this:=IJ yN two;lia))) zf)) rfl) zf) (pH rfl pT (xN (by rw[JN];lia))))) zj,df,zg rfl l1,⟨v++[(p++[s,(((T i).li c).length:Int)-1-m],x)],?_,by rw[JO];exact Nat.add_le_add_right hv 1,by rw[J'];exact hk⟩,zg rfl l2⟩;rw[Ew];simp only[I0,It,HJ,pv,vT,xh,zU]) (L:=st 46 (.ref (Q.la c i)) L) (J:=zv) ⟨l0.st rfl,zg rfl l1,⟨u,(set_same hw).symm,JK _,rfl⟩,yz⟩;subst k3;obtain k5:_++[]=_:=k5;rw[IV]at k5;subst k5;refine⟨L',zr (yu e0) (zr (xe (t:=.range (((T i).li c).map zU).length) rfl (yC rfl (zx yz) (pj hl (xN (by rw[JN];lia)))) ⟨by rw[JN];exact Iw (J4 two (by decide)),by rw[HO]⟩ rfl k) zj),k1⟩
end
theorem Wu:∀l:List Int,(l.map V.int).all (lvl 1)=JQ|[]=>rfl|i::l=>by rewrite[It];rewrite[List.all_cons];rw[Wu l];rfl
theorem Nq{x:Pn}(h:x.2<18):lvl 3 (pv x)=JQ:=by
 obtain h1:∀i<18,((z6 i).all λc=>Io c 0x110000)=JQ:=by decide+kernel
 show((x.1.map V.int).all (lvl 1)&&(((z6 x.2).all λc=>Io c 0x110000)&&JQ))=JQ;rewrite[Wu];rw[h1 _ h];rfl
theorem Np{l:List Pn}(h:∀x∈l,x.2<18):(l.map pv).all (lvl 3)=JQ:=Iz.mpr λv hv=>by obtain⟨x,hx,rfl⟩:=IG.mp hv;exact Nq (h x hx)
theorem pM{p:List Int}{s:Int}{len:Nat}{x:Pn}:∀{l:List Nat}{k:Nat},x∈tN p s len k l->x.2∈l/\x.1.length=p.length+2
|y::l,k,h=>by
 rcases JJ.mp h with e|h;.rw[e];exact⟨.head _,by rw[JO];rfl⟩
 .exact(pM h).imp (.tail _) id
section
variable{b:Bc}{d lim:Nat}{q:Bool}{J yx zt zy zv:St}{T T':Tb}{Q:Mt}{i fa wa:Nat}{k:List Nat}{L:Loc}{p:List Int}
theorem OF(w:WF T){x:Pn}(h:x∈sQ T p i):x.2<18/\x.1.length=p.length+2:=by
 have g:∀c,x.2∈(T i).li c->x.2<18:=λc h=>by rcases w.pf h with e|e|e<;>rw[e]<;>decide
 rcases I8.mp h with h|h;.exact⟨g JQ (pM h).1,(pM h).2⟩
 .exact⟨g JT (pM h).1,(pM h).2⟩
theorem OG(w:WF T):(sQ T p i).length<=4:=by unfold sQ;rewrite[JO];rewrite[ip];rw[ip];exact FU (w.two i JQ) (w.two i JT)
theorem Kc{xs:List Pn}(hx:∀x∈xs,x.2<18)(hw:zv[wa]?=JS (.list (xs.map pv)))(hL:lk 50 L=JS (.ref wa)):E ⟨b,JT,JT,d⟩ L (.cmp .ne (.loc 50) (.lst .nil)) zv (.ok (.bool (!xs.isEmpty)) (zv++[.list []])):=by refine zZ (zx hL) (y5 zf rfl) (mI (.inl ((Gr.push _).get hw)) zA (Np hx) rfl ?_).2;cases xs<;>simp only[HJ,It,v_,FH,List.isEmpty]
theorem Ka{f w:List Pn}{x:Pn}(Z:MI Q lim yx T)(hl:lim<=yx.length)(g:Gr yx zv)(ha:yx.length<=fa)(hb:yx.length<=wa)(wU:fa≠wa)(hf:zv[fa]?=JS (.list (f.map pv)))(hw:zv[wa]?=JS (.list ((w.reverse++[x]).map pv)))(hx:x.2<18)(Xy:f.length<=800)(pS:w.length<=800)(sV:x.1.length<=800)(l1:lk 7 L=JS (.ref Q.m))(l2:lk 4 L=JS (.ref fa))(l3:lk 50 L=JS (.ref wa)):X2 λL' zk=>C7 (XB ⟨b,JT,JT,d⟩ L (.cons (.yD [32,5] (.zl (.loc 50) 69 .nil)) (.cons (.expr (.zl (.loc 4) 30 (.cons (.tup (.cons (.bin .add (.loc 32) (.tup (.cons (.int 1) .nil))) (.cons (.loc 5) .nil))) .nil))) (.cons (.for [51] .plain (.tup (.cons (.int 0) (.cons (.int 2) .nil))) (.cons (.asg 46 (.sub (.sub (.loc 7) (.loc 5)) (.bin .add (.int 1) (.bin .floordiv (.loc 51) (.int 2))))) (.cons (.for [12] .range (.call (.zu 31) (.cons (.loc 46) .nil)) (.cons (.expr (.zl (.loc 50) 30 (.cons (.tup (.cons (.bin .add (.loc 32) (.tup (.cons (.loc 51) (.cons (.bin .sub (.bin .sub (.call (.zu 31) (.cons (.loc 46) .nil)) (.int 1)) (.loc 12)) .nil)))) (.cons (.sub (.loc 46) (.loc 12)) .nil))) .nil))) .nil)) .nil))) .nil))) zv (.ok .next L' zk)) (Gr yx zk) (zk[fa]?=JS (.list ((f++[(x.1++[1],x.2)]).map pv))) (zk[wa]?=JS (.list ((w.reverse++sQ T x.1 x.2).map pv))) (lk 7 L'=JS (.ref Q.m)) (lk 4 L'=JS (.ref fa)) (lk 50 L'=JS (.ref wa)):=by
 have hn:∀i<18,∀c,Q.la c i≠wa:=λi hi c e=>by obtain this:=(Z.lt.2 i hi).2 c;lia
 rw[I0]at hw;obtain x0:=uC (F:=⟨b,JT,JT,d⟩) (L:=L) (xs:=[32,5]) rfl (yo (zx l3) (Qy hw) zf (Ni rfl hw (xN (by rewrite[JN];rw[I5];lia)))) (L':=st 5 (zU x.2) (st 32 (.tup (x.1.map V.int)) L)) rfl;have sS:(zv.set wa (.list (w.reverse.map pv)))[wa]?=_:=get_set hw;obtain qk:(zv.set wa (.list (w.reverse.map pv)))[fa]?=_:=zK hf (Hk wU);obtain g1:Gr yx (zv.set wa (.list (w.reverse.map pv))):=g.set hb;generalize zv.set wa (.list (w.reverse.map pv))=yU at*;have lp:LP Q fa wa x.1 x.2 (st 5 (zU x.2) (st 32 (.tup (x.1.map V.int)) L)):=⟨zg rfl (zg rfl l1),zg rfl (zg rfl l2),zg rfl (zg rfl l3),zg rfl yz,yz⟩;obtain x1:=yJ (F:=⟨b,JT,JT,d⟩) (yo (zx lp.2) (ug qk) (zp (x_ (zp (yh (zx lp.4) (x_ (zp (yw (i:=1)) zf) rfl) (az (xN (by rewrite[JO];rw[JN];exact FU (J4 sV (by decide:800<=990)) (by decide:1<=10))))) (zp (zx lp.5) zf)) rfl) zf) (pH rfl qk (xN (by rw[JN];lia))));obtain e2:f.map pv++[V.tup [.tup (x.1.map V.int++[.int 1]),zU x.2]]=(f++[(x.1++[1],x.2)]).map pv:=by simp only[I0,It,HJ,pv,vT,xh,zU]
 rw[e2]at x1;obtain r_:(yU.set fa (.list ((f++[(x.1++[1],x.2)]).map pv)))[fa]?=_:=get_set qk;obtain ti:(yU.set fa (.list ((f++[(x.1++[1],x.2)]).map pv)))[wa]?=_:=zK sS wU;obtain g2:Gr yx (yU.set fa (.list ((f++[(x.1++[1],x.2)]).map pv))):=g1.set ha;generalize yU.set fa (.list ((f++[(x.1++[1],x.2)]).map pv))=xl at*;obtain ml:∀(c:Bool),(tN x.1 0 ((T x.2).li c).length 0 ((T x.2).li c)).length<=2:=λc=>by rw[ip];exact Z.w.two x.2 c
 obtain⟨L3,x3,Nt⟩:=Ub (b:=b) (d:=d) (s:=0) (j:=1) (c:=JQ) rfl rfl (by decide) (Z.gr g2) hx ti hn (lp.st (x:=51) (v:=.int 0) rfl) yz (by rw[I5];lia) (by lia);obtain eG:(xl.set wa (.list ((w.reverse++tN x.1 0 ((T x.2).li JQ).length 0 ((T x.2).li JQ)).map pv)))[wa]?=_:=get_set ti;obtain g3:Gr yx (xl.set wa (.list ((w.reverse++tN x.1 0 ((T x.2).li JQ).length 0 ((T x.2).li JQ)).map pv))):=g2.set hb;obtain⟨L4,x4,dS⟩:=Ub (b:=b) (d:=d) (s:=2) (j:=2) (c:=JT) rfl rfl (by decide) (Z.gr g3) hx eG hn (Nt.st (x:=51) (v:=.int 2) rfl) yz (by obtain this:=ml JQ;rewrite[JO];rw[I5];lia) (by lia);rw[Ew,J']at x4;refine⟨L4,_,zr x0 (zr x1 (zr (xe (t:=.tup [.int 0,.int 2]) rfl (x_ (zp yw (zp yw zf)) rfl) rfl rfl (.turn rfl rfl rfl x3 (.turn rfl rfl rfl x4 (.stop rfl)))) zj)),g2.set hb,zK r_ (Hk wU),get_set ti,dS.1,dS.2,dS.3⟩
theorem Kb(Z:MI Q lim yx T)(hl:lim<=yx.length)(ha:yx.length<=fa)(hb:yx.length<=wa)(wU:fa≠wa){ps:List Pn}:∀(n:Nat)(f w:List Pn)(L:Loc)(zv:St),sE T n f w=JS ps->Gr yx zv->zv[fa]?=JS (.list (f.map pv))->zv[wa]?=JS (.list (w.reverse.map pv))->(∀x∈w,x.2<18/\x.1.length+2*n<=200)->f.length+n<=200->w.length+4*n<=200->lk 7 L=JS (.ref Q.m)->lk 4 L=JS (.ref fa)->lk 50 L=JS (.ref wa)->X3 λm L' zk=>C4 (WL ⟨b,JT,JT,d⟩ (.cmp .ne (.loc 50) (.lst .nil)) (.cons (.yD [32,5] (.zl (.loc 50) 69 .nil)) (.cons (.expr (.zl (.loc 4) 30 (.cons (.tup (.cons (.bin .add (.loc 32) (.tup (.cons (.int 1) .nil))) (.cons (.loc 5) .nil))) .nil))) (.cons (.for [51] .plain (.tup (.cons (.int 0) (.cons (.int 2) .nil))) (.cons (.asg 46 (.sub (.sub (.loc 7) (.loc 5)) (.bin .add (.int 1) (.bin .floordiv (.loc 51) (.int 2))))) (.cons (.for [12] .range (.call (.zu 31) (.cons (.loc 46) .nil)) (.cons (.expr (.zl (.loc 50) 30 (.cons (.tup (.cons (.bin .add (.loc 32) (.tup (.cons (.loc 51) (.cons (.bin .sub (.bin .sub (.call (.zu 31) (.cons (.loc 46) .nil)) (.int 1)) (.loc 12)) .nil)))) (.cons (.sub (.loc 46) (.loc 12)) .nil))) .nil))) .nil)) .nil))) .nil))) m L zv (.ok .next L' zk)) (Gr yx zk) (zk[fa]?=JS (.list (ps.map pv))) (lk 4 L'=JS (.ref fa)):=by
 intro n;induction n with
 |zero=>intro f w L zv h;cases h
 |succ n ih=>
  intro f w L zv h g hf hw hx Xy pS l1 l2 l3;have hc:=Kc (b:=b) (d:=d) (λx hm=>(hx x (IM.mp hm)).1) hw l3;cases w with
  |nil=>cases h;exact⟨1,L,_,.stop hc,g.tr (Gr.push _),(Gr.push _).get hf,l2⟩
  |cons x w=>
   rw[Gy]at hc hw;rw[show(w.reverse++[x]).isEmpty=JT by cases w.reverse<;>rfl]at hc;rw[ID]at pS;obtain⟨x1,x2⟩:=hx x (.head _);obtain⟨zN,yU,k,g1,qk,sS,m1,m2,m3⟩:=Ka (b:=b) (d:=d) Z hl (g.tr (Gr.push (.list []))) ha hb wU ((Gr.push _).get hf) ((Gr.push _).get hw) x1 (by lia) (by lia) (by lia) l1 l2 l3;have kl:=OG (p:=x.1) (i:=x.2) Z.w;obtain⟨m,L',zk,k',r,r',kc⟩:=ih _ _ zN yU h g1 qk (by rewrite[List.reverse_append];rw[List.reverse_reverse];exact sS) (λy hy=>by
    rcases I8.mp hy with hy|hy;.obtain⟨y1,y2⟩:=OF Z.w (IM.mp hy);exact⟨y1,by lia⟩
    .obtain⟨y1,y2⟩:=hx y (.tail _ hy);exact⟨y1,by lia⟩) (by rewrite[JO];rw[Il];lia) (by rewrite[JO];rw[I5];lia) m1 m2 m3;exact⟨m+1,L',zk,.turn hc k k',r,r',kc⟩
theorem MG{ps:List Pn}{qs:List uS}(Z:MI Q lim J T)(hl:lim<=J.length)(hi:i<18)(hr:sE T 40 [] [([],i)]=JS ps)(hs:mw (ps.map vT)=JS qs)(v3:∀p,runK (p7 (ps.map vT)) (HL (ps.map vT).length)=JS p->∀j∈p.toList,j<(ps.map vT).length):X2 λl zy=>C4 (Call ⟨b,JT,JT,d+1⟩ (.fn 915) [.ref Q.m,zU i] J (.ok (.ref l) zy)) (Gr J zy) (J.length<=l) (zy[l]?=JS (.list (qs.map xh))):=by
 obtain g:Gr J ((J++[.list []])++[.list [pv ([],i)]]):=(Gr.push _).tr (Gr.push _);obtain⟨m,L',zk,k,g',hf,l2⟩:=Kb (b:=b) (d:=d) (fa:=J.length) (wa:=(J++[O.list []]).length) Z hl (JK _) (Gr.push (J:=J) (.list [])).1 (by rw[JO];exact IP (Hq _)) 40 [] [([],i)] [(7,.ref Q.m),(0,zU i),(4,.ref J.length),(50,.ref (J++[O.list []]).length)] _ hr g ((Gr.push _).get zA) zA (λx hx=>by rw[JP.mp hx];exact⟨hi,show 0+2*40<=200 by decide⟩) (by decide) (show 1+4*40<=200 by decide) rfl rfl rfl;obtain Po:zk[J.length]?=JS (.list ((ps.map vT).map xh)):=by rewrite[hf];rw[HT];rfl
 exact⟨_,_,zI rfl rfl (zr (uC rfl (x_ (zp (y5 zf rfl) (zp (y5 (zp (x_ (zp (x_ zf rfl) (zp (zx rfl) zf)) rfl) zf) rfl) zf)) rfl) rfl) (zr (oj k) (zT (zL (yC rfl (zx l2) (R9 Po hs v3)))))),g'.tr (Gr.push _),g'.1,zA⟩
end
noncomputable def hJ(i:Nat)(a m a8 m8:List Nat):Tb:=λj=>match JG j i with|JQ=>⟨λc=>match c with|JQ=>a|JT=>m,[]⟩|JT=>match JG j 8 with|JQ=>⟨λc=>match c with|JQ=>a8|JT=>m8,[]⟩|JT=>⟨λzz=>[],[]⟩
noncomputable def nq(cnt:Nat):Nat->List uS->Bool|zo,[]=>JQ|k,q::r=>(match q.1 with|h::_=>decide (h=0)==Io k cnt|[]=>JT)&&nq cnt (k+1) r
noncomputable def ju:List (List Nat)->List (List Nat)->Bool|[],[]=>JQ|a::r,b::t=>zR a b&&ju r t|zo,zY=>JT
noncomputable def ae(T:Tb)(i:Nat):Bool:=match sE T 40 [] [([],i)]with|JS ps=>(match mw (ps.map vT)with|JS qs=>ju (qs.map (·.2)) ((own T 2 i).map z6)&&nq (xT T i) 0 qs|none=>JT)&&(match runK (p7 (ps.map vT)) (HL (ps.map vT).length)with|JS p=>p.toList.all fun j=>Io j (ps.map vT).length|none=>JQ)|none=>JT
set_option maxHeartbeats 4000000 in theorem Rv:(IF 18).all (λi=>(vt JQ i).all λa=>(vt JT i).all λm=>(vt JQ 8).all λa8=>(vt JT 8).all λm8=>ae (hJ i a m a8 m8) i)=JQ:=by decide+kernel
theorem aj:∀{a c:List (List Nat)},ju a c=JQ->a=c|[],[],zo=>rfl|a::r,b::t,h=>by obtain⟨h1,h2⟩:=zh (show(zR a b&&ju r t)=JQ from h);rewrite[xj.mp h1];rw[aj h2]
section
variable{T T':Tb}{S:Nat->Prop}
structure Alike(T T':Tb)(S:Nat->Prop):Prop where
 e:∀j c,S j->(T j).li c=(T' j).li c
 c:∀j c x,S j->x∈(T j).li c->S x
theorem Alike.own(A:Alike T T' S):∀(k:Nat){j:Nat},S j->own T k j=own T' k j
|0,zo,zY=>rfl
|k+1,j,h=>by
 have go:∀c,((T j).li c).reverse.flatMap (Mine.own T k)=((T' j).li c).reverse.flatMap (Mine.own T' k):=λc=>by
  rw[<-A.e j c h];have:∀l:List Nat,(∀x∈l,S x)->l.flatMap (Mine.own T k)=l.flatMap (Mine.own T' k):=λl hl=>by induction l with|nil=>rfl|cons x l ih=>rewrite[G9];rewrite[G9];rewrite[A.own k (hl x (.head _))];rw[ih λy hy=>hl y (.tail _ hy)]
  exact this _ λx hx=>A.c j c x h (IM.mp hx)
 unfold Mine.own;rewrite[go];rw[go]
theorem Alike.ahead(A:Alike T T' S){j:Nat}(h:S j):xT T j=xT T' j:=by unfold xT;rw[<-A.e j JQ h];exact congrArg List.sum (HG λx hx=>by rw[A.own 1 (A.c j JQ x h hx)])
theorem Alike.run(A:Alike T T' S):∀(n:Nat)(f w:List Pn),(∀x∈w,S x.2)->sE T n f w=sE T' n f w
|0,zo,zY,zH=>rfl
|n+1,f,[],zo=>rfl
|n+1,f,x::w,h=>by
 have hx:=h x (.head _);have e:sQ T x.1 x.2=sQ T' x.1 x.2:=by unfold sQ;rewrite[A.e x.2 JQ hx];rw[A.e x.2 JT hx]
 show sE T n (f++[(x.1++[1],x.2)]) ((sQ T x.1 x.2).reverse++w)=sE T' n (f++[(x.1++[1],x.2)]) ((sQ T' x.1 x.2).reverse++w);rw[<-e];refine A.run n _ _ λy hy=>?_;rcases I8.mp hy with hy|hy
 .rcases I8.mp (IM.mp hy)with hy|hy;.exact A.c _ _ _ hx (pM hy).1
  .exact A.c _ _ _ hx (pM hy).1
 .exact h y (.tail _ hy)
theorem Mp(w:WF T){i:Nat}(hi:i<18):X2 fun ps qs=>C5 (sE T 40 [] [([],i)]=JS ps) (mw (ps.map vT)=JS qs) (∀p,runK (p7 (ps.map vT)) (HL (ps.map vT).length)=JS p→∀j∈p.toList,j<(ps.map vT).length) (qs.map (·.2)=(own T 2 i).map z6) (nq (xT T i) 0 qs=JQ):=by
 have A:Alike T (hJ i ((T i).li JQ) ((T i).li JT) ((T 8).li JQ) ((T 8).li JT)) (fun j=>j=i∨(j=1∨j=8∨j=9)):=by
  refine⟨fun j c h=>?_,fun j c x zz hx=>.inr (w.pf hx)⟩;by_cases q:j=i;·subst q;unfold hJ;rw[Gz];cases c<;>rfl
  ·have q':JG j i=JT:=by cases z:JG j i with|false=>rfl|true=>exact absurd (JD z) q
   unfold hJ;rw[q'];rcases h with e|rfl|rfl|rfl;·exact absurd e q
   ·exact w.j_ (.inl rfl) c
   ·cases c<;>rfl
   ·exact w.j_ (.inr rfl) c
 have h:=Iz.mp (Iz.mp (Iz.mp (Iz.mp (Iz.mp Rv i (Hw.mpr hi)) _ (w.li i JQ)) _ (w.li i JT)) _ (w.li 8 JQ)) _ (w.li 8 JT);have h0:(fun j=>j=i∨(j=1∨j=8∨j=9)) i:=.inl rfl;unfold ae at h;rw[←A.run 40 [] [([],i)] (fun x hx=>by rw[JP.mp hx];exact h0),←A.own 2 h0,←A.ahead h0]at h;cases h1:sE T 40 [] [([],i)]with|none=>rw[h1]at h;cases h|some ps=>rw[h1]at h;obtain⟨h2,h3⟩:=zh h;cases h4:mw (ps.map vT)with|none=>rw[h4]at h2;cases h2|some qs=>rw[h4]at h2;obtain⟨h5,h6⟩:=zh h2;refine⟨ps,qs,rfl,h4,fun p hp j hj=>?_,aj h5,h6⟩;rw[hp]at h3;exact JA (Iz.mp h3 j hj)
theorem Vy{b:Bc}{d lim:Nat}{J:St}{Q:Mt}{i:Nat}(Z:MI Q lim J T)(hl:lim≤J.length)(hi:i<18):X3 fun l zy qs=>C6 (Call ⟨b,JT,JT,d+1⟩ (.fn 915) [.ref Q.m,zU i] J (.ok (.ref l) zy)) (Gr J zy) (J.length≤l) (zy[l]?=JS (.list (qs.map xh))) (qs.map (·.2)=(own T 2 i).map z6) (nq (xT T i) 0 qs=JQ):=by obtain⟨ps,qs,h1,h2,h3,h4,h5⟩:=Mp Z.w hi;obtain⟨l,zy,c,g,hle,hl⟩:=MG (b:=b) (d:=d) Z hl hi h1 h2 h3;exact⟨l,zy,qs,c,g,hle,hl,h4,h5⟩
end
noncomputable def um:Nat->Nat->List Nat|0,i=>[i]|k+1,i=>i::(match par i with|JS p=>um k p|none=>[])
theorem a_:∀(k i:Nat),(um k i).length<=k+1|0,zo=>JK _|k+1,i=>by unfold um;cases par i with|none=>exact Ik (I4 _)|some p=>exact Ik (a_ k p)
theorem gK:∀(k:Nat){i:Nat},i<18->∀x∈um k i,x<18
|0,i,h,x,hx=>by rw[JP.mp hx];exact h
|k+1,i,h,x,hx=>by
 unfold um at hx;rcases JJ.mp hx with e|hx;.rw[e];exact h
 .cases hp:par i with|none=>rw[hp]at hx;exact nomatch hx|some p=>rw[hp]at hx;exact gK k (rM hp) x hx
theorem gM{T:Tb}:∀(k:Nat){i:Nat},rank i=k->(um k i).reverse.foldl (λbh j=>step T j bh) []=ln T i
|0,i,h=>by
 have hp:par i=none:=by cases q:par i with|none=>rfl|some p=>have:=vF q;lia
 rw[lF hp];rfl
|k+1,i,h=>by cases hp:par i with|none=>have:=kX hp;lia|some p=>unfold um;rewrite[hp];rewrite[Gy];rewrite[List.foldl_append];rewrite[gM k (by have:=vF hp;lia)];rw[nN hp];rfl
section
variable{b:Bc}{d lim:Nat}{q:Bool}{J yx zt zy zv:St}{T T':Tb}{Q:Mt}{i ca n:Nat}{k:List Nat}{L:Loc}
theorem Lk{F:Fr}{xs:List V}{v:V}(hn:J[n]?=JS (.list (xs++[v])))(hs:short (xs++[v])=JQ):Sub F (.ref n) (.int (-1)) J v:=Ll hn (by rewrite[JO];rewrite[Il];rewrite[GK];rewrite[I_ (JK _)];rw[Hn];rfl) hs
theorem rR{l m:List Nat}:za (l++m)=za l++za m:=I0
theorem sO{l:List Nat}(h:l.length<=1000):short (za l)=JQ:=xN (by unfold za;rw[JN];exact h)
theorem Kd(Z:MI Q lim yx T)(ha:yx.length<=ca)(l1:lk 7 L=JS (.ref Q.m))(l2:lk 65 L=JS (.ref ca)):∀(n:Nat)(i:Nat)(pre:List Nat)(zv:St),rank i=n->i<18->Gr yx zv->zv[ca]?=JS (.list (za (pre++[i])))->pre.length+n<=100->X2 λm zk=>C3 (WL ⟨b,JT,JT,d⟩ (.cmp .yS (.sub (.sub (.loc 7) (.sub (.loc 65) (.neg 1))) (.int 0)) .none) (.cons (.expr (.zl (.loc 65) 30 (.cons (.sub (.sub (.loc 7) (.sub (.loc 65) (.neg 1))) (.int 0)) .nil))) .nil) m L zv (.ok .next L zk)) (Gr yx zk) (zk[ca]?=JS (.list (za (pre++um n i)))):=by
 have cond:∀(i:Nat)(pre:List Nat)(zv:St),i<18->Gr yx zv->zv[ca]?=JS (.list (za (pre++[i])))->pre.length<=100->E ⟨b,JT,JT,d⟩ L (.sub (.sub (.loc 7) (.sub (.loc 65) (.neg 1))) (.int 0)) zv (.ok (match par i with|JS p=>zU p|none=>.none) zv):=λi pre zv hi g hc hl=>by rw[rR]at hc;exact oG (Z.gr g) hi l1 (yL (zx l2) f_ (Lk hc (by rw[show[zU i]=za [i]from rfl,<-rR];exact sO (by rewrite[JO];rw[Il];lia)))) yw (j:=0) rfl (by decide)
 intro n;induction n with
 |zero=>
  intro i pre zv hr hi g hc hl;have hp:par i=none:=by cases q:par i with|none=>rfl|some p=>obtain this:=vF q;lia
  obtain h0:=cond i pre zv hi g hc (by lia);rw[hp]at h0;exact⟨1,zv,.stop (zZ h0 zQ (v8 rfl)),g,hc⟩
 |succ n ih=>intro i pre zv hr hi g hc hl;obtain h0:=cond i pre zv hi g hc (by lia);cases hp:par i with|none=>obtain this:=kX hp;lia|some p=>rw[hp]at h0;obtain e:za (pre++[i])++[zU p]=za ((pre++[i])++[p]):=(rR (m:=[p])).symm;obtain⟨m,zk,k,g',wb⟩:=ih p (pre++[i]) (zv.set ca (.list (za ((pre++[i])++[p])))) (by obtain this:=vF hp;lia) (rM hp) (g.set ha) (get_set hc) (by rewrite[JO];rw[Il];lia);refine⟨m+1,zk,.turn (zZ h0 zQ (tS rfl)) (zr (yJ (yo (zx l2) (ug hc) (zp h0 zf) (by exact pI rfl hc (sO (by rewrite[JO];rw[Il];lia)) e))) zj) k,g',?_⟩;unfold um;rewrite[hp];rewrite[wb];rw[J'];rfl
theorem j8{F:Fr}{l:List Nat}{x:Nat}(hx:x<18)(hl:∀y∈l,y<18)(hn:J[n]?=JS (.list (za l))):xg F .y9 (zU x) (.ref n) J (!l.contains x):=by rw[<-mP hx hl];exact(mG hn (kT l)).2
theorem Nk{pl hl bl cnt:Nat}{qs:List uS}{zs bh:List Nat}(sV:yx[pl]?=JS (.list (qs.map xh)))(pd:yx[bl]?=JS (.list (za bh)))(hh:yx[hl]?=JS (.list []))(np:pl∉[hl])(nb:bl∉[hl])(hq:qs.map (·.2)=zs.map z6)(hk:nq cnt 0 qs=JQ)(hz:∀x∈zs,x<18)(hb:∀x∈bh,x<18)(Js:zs.length≤100)(l1:lk 39 L=JS (.ref hl))(l2:lk 22 L=JS (.ref bl))(l3:lk 7 L=JS (.ref Q.m))(l0:lk 52 L=none):X2 fun L' zk=>C7 (FL ⟨b,JT,JT,d⟩ [32,10] (.list pl) (qs.map xh) (.cons (.cond (.and (.cons (.cmp .y9 (.loc 10) (.loc 39)) (.cons (.or (.cons (.cmp .eq (.sub (.loc 32) (.int 0)) (.int 0)) (.cons (.cmp .y9 (.loc 10) (.loc 22)) .nil))) .nil))) (.cons (.expr (.zl (.loc 39) 30 (.cons (.loc 10) .nil))) .nil) .nil) .nil) (qs.map xh).length L yx (.ok .next L' zk)) (Bt [hl] yx zk) (zk[hl]?=JS (.list (za (here bh cnt 0 [] zs)))) (lk 39 L'=JS (.ref hl)) (lk 22 L'=JS (.ref bl)) (lk 7 L'=JS (.ref Q.m)) (lk 52 L'=none):=by
 obtain⟨L',zk,k,k1,⟨acc,rest,a1,a2,a3,a4,a5,a6,a7⟩,k3,k4,k5,k6⟩:=FL.all (F:=⟨b,JT,JT,d⟩) (xs:=[32,10]) (t:=.list pl) (b:=(.cons (.cond (.and (.cons (.cmp .y9 (.loc 10) (.loc 39)) (.cons (.or (.cons (.cmp .eq (.sub (.loc 32) (.int 0)) (.int 0)) (.cons (.cmp .y9 (.loc 10) (.loc 22)) .nil))) .nil))) (.cons (.expr (.zl (.loc 39) 30 (.cons (.loc 10) .nil))) .nil) .nil) .nil)) (l:=qs.map xh) (zs:=qs) (g:=fun zz z=>xh z) (JN _) (fun p z h=>by rewrite[JF];rw[h];rfl) (P:=fun p ys L zv=>C6 (Bt [hl] yx zv) (X2 fun acc rest=>C7 (zv[hl]?=JS (.list (za acc))) (acc.length≤p) (∀x∈acc,x<18) (ys.map (·.2)=rest.map z6) (∀x∈rest,x<18) (nq cnt p ys=JQ) (here bh cnt p acc rest=here bh cnt 0 [] zs)) (lk 39 L=JS (.ref hl)) (lk 22 L=JS (.ref bl)) (lk 7 L=JS (.ref Q.m)) (lk 52 L=none)) (fun p ys L zv h=>h.1.2 _ _ sV np) (by
  rintro p z ys L zv hp hd⟨g,⟨acc,rest,a1,a2,a3,a4,a5,a6,a7⟩,k3,k4,k5,k6⟩;obtain yN:=(J9.mp hp).1;obtain PC:qs.length=zs.length:=by obtain this:=congrArg H6 hq;rwa [JN,JN]at this
  cases rest with
  |nil=>cases a4
  |cons x rest=>
   rw[It,It]at a4;obtain⟨e1,e2⟩:=List.cons.inj a4;obtain⟨b1,b2⟩:=zh a6;obtain⟨pt,nm⟩:=z;obtain e1:nm=z6 x:=e1;subst e1;cases pt with
   |nil=>cases b1
   |cons h0 t0=>
    obtain hx:=a5 x (.head _);obtain lg:lk 10 (st 10 (zU x) (st 32 (.tup ((h0::t0).map V.int)) L))=JS (zU x):=yz;obtain e0:=zZ (F:=⟨b,JT,JT,d⟩) (L:=st 10 (zU x) (st 32 (.tup ((h0::t0).map V.int)) L)) (J:=zv) (yL (zx (x:=32) (zg rfl yz)) yw (vo (j:=0) rfl (by decide))) (yw (i:=0)) rj;have QD:(h0==0)=decide ((p:Int)<cnt):=by obtain b1:(decide (h0=0)==Io p cnt)=JQ:=b1;rw[show(h0==0)=decide (h0=0)from rfl,eq_of_beq b1];cases q:Io p cnt with|true=>obtain this:=JA q;exact(decide_eq_true (by lia)).symm|false=>exact(decide_eq_false fun h=>by rw[show Io p cnt=JQ from Iw (by lia)]at q;cases q).symm
    rw[QD]at e0;obtain hc:=oH (zZ (zx lg) (zx (zg rfl (zg rfl k3))) (j8 hx a3 a1)) fun zz=>jX e0 fun zz=>zZ (zx lg) (zx (zg rfl (zg rfl k4))) (j8 hx hb (g.2 _ _ pd nb));refine⟨_,st 10 (zU x) (st 32 (.tup ((h0::t0).map V.int)) L),zv.set hl (.list (za (if !acc.contains x&&(decide ((p:Int)<cnt)||!bh.contains x)then acc++[x]else acc))),rfl,zr (oq hc ?_) zj,g.set _ (.inl (.head _)),⟨_,rest,get_set a1,?_,?_,e2,fun y hy=>a5 y (.tail _ hy),b2,a7⟩,zg rfl (zg rfl k3),zg rfl (zg rfl k4),zg rfl (zg rfl k5),zg rfl (zg rfl k6)⟩
    ·split;·exact zr (yJ (yo (zx (zg rfl (zg rfl k3))) (ug a1) (zp (zx lg) zf) (by exact pI rfl a1 (sO (by lia)) (rR (m:=[x])).symm))) zj
     ·obtain this:zv.set hl (.list (za acc))=zv:=set_same a1;rw[this];exact zj
    ·split;·rw[JO];exact Ik a2
     ·exact Hb a2
    ·split
     ·intro y hy;rcases I8.mp hy with hy|hy;·exact a3 y hy
      ·rw[JP.mp hy];exact hx
     ·exact a3) (L:=L) (J:=yx) ⟨.re,⟨[],zs,hh,JK _,(fun zz h=>nomatch h),hq,hz,hk,rfl⟩,l1,l2,l3,l0⟩;cases rest with|nil=>exact⟨L',zk,k,k1,by rewrite[a1];rw[←a7];rfl,k3,k4,k5,k6⟩|cons=>cases a4
end
theorem ko{T:Tb}(w:WF T):∀(k:Nat){i:Nat},i<18->∀x∈own T k i,x<18
|0,i,h,x,hx=>by rw[JP.mp hx];exact h
|k+1,i,h,x,hx=>by
 have go:∀c,x∈((T i).li c).reverse.flatMap (own T k)->x<18:=λc hx=>by obtain⟨y,h1,h2⟩:=Ek.mp hx;exact ko w k (by rcases w.pf (IM.mp h1)with e|e|e<;>rw[e]<;>decide) x h2
 rcases I8.mp hx with hx|hx;.exact go JQ hx
 .rcases JJ.mp hx with e|hx;.rw[e];exact h
  .exact go JT hx
section
variable{b:Bc}{d lim:Nat}{q:Bool}{J yx zt zy zv:St}{T T':Tb}{Q:Mt}{i ca n:Nat}{k:List Nat}{L:Loc}
theorem Nc{hl bl:Nat}{h bh:List Nat}(hh:zv[hl]?=JS (.list (za h)))(pd:zv[bl]?=JS (.list (za bh)))(hz:∀x∈h,x<18)(hb:∀x∈bh,x<18)(hlen:bh.length<=500)(l1:lk 39 L=JS (.ref hl)):∃zk,C3 (CL ⟨b,JT,JT,d⟩ L [10] (.list bl) (za bh) (.loc 10) (.cons (.cmp .y9 (.loc 10) (.loc 39)) .nil) zv.length (za bh).length [] (zv++[.list []]) (za (bh.filter λx=>!h.contains x)) zk) (Gr zv zk) (zk[zv.length]?=JS (.list (za (bh.filter λx=>!h.contains x)))):=by obtain⟨acc,zk,k,k1,⟨us,rfl,k2,k3⟩,k4⟩:=CL.go (F:=⟨b,JT,JT,d⟩) (L:=L) (xs:=[10]) (t:=.list bl) (elt:=(.loc 10)) (yd:=(.cons (.cmp .y9 (.loc 10) (.loc 39)) .nil)) (n0:=zv.length) (l:=za bh) (zs:=bh) (g:=λzz x=>zU x) (JN _) (λp z h=>by unfold za;rewrite[JF];rw[h];rfl) (P:=λp ys acc zk=>C3 (Gr zv zk) (∃us,C3 (acc=za us) (us.length<=p) (us++ys.filter (λx=>!h.contains x)=bh.filter λx=>!h.contains x)) (zk[zv.length]?=JS (.list acc))) (λp ys acc zk h=>h.1.get pd) (by rintro p x ys acc zk hp hd⟨g,⟨us,rfl,hu,hv⟩,hc⟩;obtain hx:=hb x (J5 hp);obtain yN:=(J9.mp hp).1;obtain he:=zZ (F:=⟨b,JT,JT,d⟩) (L:=st 10 (zU x) L) (zx (x:=10) yz) (zx (zg rfl l1)) (j8 hx hz (g.get hh));cases hq:h.contains x with|true=>rw[hq]at he;exact⟨_,zk,rfl,.inl ⟨_,rfl,he,g,⟨us,rfl,Hb hu,by rw[Ib,hq]at hv;exact hv⟩,hc⟩⟩|false=>rw[hq]at he;exact⟨_,zk,rfl,.inr ⟨zk,_,.inr ⟨_,rfl,he⟩,zx yz,hc,sO (by lia),g.set (JK _),⟨us++[x],(rR (m:=[x])).symm,by rw[JO];exact Ik hu,by rw[Ib,hq]at hv;rw[J'];exact hv⟩,get_set hc⟩⟩) bh.length 0 _ [] (zv++[.list []]) rfl rfl ⟨Gr.push _,⟨[],rfl,JK _,rfl⟩,zA⟩;rw[Eb,IV]at k3;subst k3;exact⟨zk,by rw[show(za bh).length=bh.length from JN _];exact k,k1,k4⟩
theorem N_{bl:Nat}{bh:List Nat}(Z:MI Q lim zv T)(xC:lim<=zv.length)(hi:i<18)(pd:zv[bl]?=JS (.list (za bh)))(hb:∀x∈bh,x<18)(hlen:bh.length<=400)(l1:lk 5 L=JS (zU i))(l2:lk 22 L=JS (.ref bl))(l3:lk 7 L=JS (.ref Q.m))(l0:lk 52 L=none):X3 λL' zk n=>C6 (XB ⟨b,JT,JT,d+1⟩ L (.cons (.asg 39 (.lst .nil)) (.cons (.for [32,10] .plain (.call (.zu 116) (.cons (.loc 7) (.cons (.loc 5) .nil))) (.cons (.cond (.and (.cons (.cmp .y9 (.loc 10) (.loc 39)) (.cons (.or (.cons (.cmp .eq (.sub (.loc 32) (.int 0)) (.int 0)) (.cons (.cmp .y9 (.loc 10) (.loc 22)) .nil))) .nil))) (.cons (.expr (.zl (.loc 39) 30 (.cons (.loc 10) .nil))) .nil) .nil) .nil)) (.cons (.asg 22 (.bin .add (.loc 39) (.comp (.loc 10) [10] .plain (.loc 22) (.cons (.cmp .y9 (.loc 10) (.loc 39)) .nil)))) .nil))) zv (.ok .next L' zk)) (Gr zv zk) (zk[n]?=JS (.list (za (step T i bh)))) (lk 22 L'=JS (.ref n)) (lk 7 L'=JS (.ref Q.m)) (lk 52 L'=none):=by
 obtain g1:=Gr.push (J:=zv) (.list []);obtain⟨pl,yU,qs,c,g2,lY,hp,hq,hk⟩:=Vy (b:=b) (d:=d) (Z.gr g1) (J4 xC g1.1) hi;have hz:=ko Z.w 2 hi;have ol:=Z.w.uI 2 i (JK _);have ne:∀{r:Nat},r≠zv.length->r∉[zv.length]:=λh m=>h (JP.mp m);have tv:=g1.tr g2;have Y6:bl≠zv.length:=IP (y0 pd);obtain PF:pl≠zv.length:=λe=>by rw[JO,Il]at lY;lia
 obtain⟨yi,xl,k,g3,hh,m1,m2,m3,m0⟩:=Nk (b:=b) (d:=d+1) (yx:=yU) (hl:=zv.length) (L:=st 39 (.ref zv.length) L) (Q:=Q) hp (tv.get pd) (g2.get zA) (ne PF) (ne Y6) hq hk hz hb (by lia) yz (zg rfl l2) (zg rfl l3) (zg rfl l0);have Y7:=g3.2 _ _ (tv.get pd) (ne Y6);obtain pY:=lh bh (xT T i) (own T 2 i) [] 0;rw[Hh]at pY;obtain⟨wI,k3,g4,hn⟩:=Nc (b:=b) (d:=d+1) hh Y7 (λx hx=>(jK hx).elim (λh=>nomatch h) (hz x)) hb (by lia) m1;obtain gg:Gr zv wI:=⟨J4 tv.1 (J4 g3.1 g4.1),λr hr=>by obtain⟨o,ho⟩:∃o,zv[r]?=JS o:=⟨_,Ic hr⟩;rw[ho];exact g4.get (g3.2 _ _ (tv.get ho) (ne (IP hr)))⟩;obtain Xy:=HP (λx=>!(here bh (xT T i) 0 [] (own T 2 i)).contains x) bh;refine⟨st 22 (.ref wI.length) yi,wI++[.list (za (step T i bh))],wI.length,zr (yu (y5 zf rfl)) (zr (xe (t:=.list pl) rfl (yY rfl (zx (zg rfl l3)) (zx (zg rfl l1)) c) hp rfl k) (zr (yu (yh (zx m1) (sj (t:=.list bl) rfl rfl m0 (zx m2) Y7 k3) ?_)) zj)),gg.tr (Gr.push _),zA,yz,zg rfl m3,zg rfl m0⟩;unfold step qI;rw[rR];exact mM (g4.get hh) hn (by rw[<-rR];exact sO (by rw[JO];lia))
theorem Lc{F:Fr}{xs zs:List V}{t:EU}(hn:J[n]?=JS (.list xs))(hs:short xs=JQ)(e:xs.reverse=zs):uA F (.ref n) .none .none (.int (-1) t) J (.ref J.length) (J++[.list zs]):=e▸i6 hn hs
theorem Wy(w:WF T):∀(l bh:List Nat),(∀x∈l,x<18)->(∀x∈bh,x<18)->(∀x∈l.foldl (λbh j=>step T j bh) bh,x<18)|[],zo,zY,h=>h|j::l,bh,hl,h=>Wy w l _ (λx hx=>hl x (.tail _ hx)) λx hx=>(hZ hx).elim (ko w 2 (hl j (.head _)) x) (h x)
theorem cF(w:WF T)(i:Nat)(bh:List Nat):(step T i bh).length<=21+bh.length:=by obtain h1:=lh bh (xT T i) (own T 2 i) [] 0;obtain h2:=w.uI 2 i (JK _);obtain h3:=HP (λx=>!(here bh (xT T i) 0 [] (own T 2 i)).contains x) bh;rw[Hh]at h1;unfold step qI;rw[JO];lia
theorem ig(w:WF T)(hi:i<18):∀x∈ln T i,x<18:=by rw[<-gM (rank i) rfl];exact Wy w _ [] (λx hx=>gK _ hi x (IM.mp hx)) λzz h=>nomatch h
theorem iI(Z:MI Q lim J T)(xC:lim<=J.length)(hi:i<18):X2 λl zy=>C3 (Call ⟨b,JT,JT,d+2⟩ (.fn 920) [.ref Q.m,zU i] J (.ok (.ref l) zy)) (Gr J zy) (zy[l]?=JS (.list (za (ln T i)))):=by obtain r7:=kY hi;obtain⟨m,zv,k,g,hc⟩:=Kd (b:=b) (d:=d+1) (ca:=J.length) (L:=[(7,.ref Q.m),(0,zU i),(65,.ref J.length)]) Z (JK _) rfl rfl (rank i) i [] (J++[.list [zU i]]) rfl hi (Gr.push _) zA (by rw[Hh];lia);obtain cl:=a_ (rank i) i;obtain g2:Gr zv ((zv++[.list []])++[.list (za (um (rank i) i).reverse)]):=(Gr.push _).tr (Gr.push _);obtain⟨L',zk,k',g',⟨bl,bh,b1,b2,b3,b4,b5⟩,_⟩:=FL.all (F:=⟨b,JT,JT,d+1⟩) (xs:=[5]) (t:=.list (zv++[O.list []]).length) (b:=(.cons (.asg 39 (.lst .nil)) (.cons (.for [32,10] .plain (.call (.zu 116) (.cons (.loc 7) (.cons (.loc 5) .nil))) (.cons (.cond (.and (.cons (.cmp .y9 (.loc 10) (.loc 39)) (.cons (.or (.cons (.cmp .eq (.sub (.loc 32) (.int 0)) (.int 0)) (.cons (.cmp .y9 (.loc 10) (.loc 22)) .nil))) .nil))) (.cons (.expr (.zl (.loc 39) 30 (.cons (.loc 10) .nil))) .nil) .nil) .nil)) (.cons (.asg 22 (.bin .add (.loc 39) (.comp (.loc 10) [10] .plain (.loc 22) (.cons (.cmp .y9 (.loc 10) (.loc 39)) .nil)))) .nil)))) (l:=za (um (rank i) i).reverse) (zs:=(um (rank i) i).reverse) (g:=λzz x=>zU x) (JN _) (λp z h=>by unfold za;rewrite[JF];rw[h];rfl) (P:=λp ys L zk=>C4 (Gr ((zv++[.list []])++[.list (za (um (rank i) i).reverse)]) zk) (X2 λbl bh=>C5 (lk 22 L=JS (.ref bl)) (zk[bl]?=JS (.list (za bh))) (∀x∈bh,x<18) (bh.length<=21*p) (ys.foldl (λbh j=>step T j bh) bh=ln T i)) (lk 7 L=JS (.ref Q.m)) (lk 52 L=none)) (λp ys L zk h=>h.1.get zA) (by rintro p x ys L zk hp hd⟨g',⟨bl,bh,b1,b2,b3,b4,b5⟩,l1,l0⟩;have hx:=gK _ hi x (IM.mp (J5 hp));have yN:=(J9.mp hp).1;rw[I5]at yN;obtain gx:=g.tr (g2.tr g');obtain⟨zN,yU,n,k,gk,hn,m1,m2,m3⟩:=N_ (b:=b) (d:=d) (Z.gr gx) (J4 xC gx.1) hx b2 b3 (by lia) (L:=st 5 (zU x) L) yz (zg rfl b1) (zg rfl l1) (zg rfl l0);obtain sl:=cF Z.w x bh;exact⟨_,zN,yU,rfl,k,g'.tr gk,⟨n,_,m1,hn,λy hy=>(hZ hy).elim (ko Z.w 2 hx y) (b3 y),by lia,b5⟩,m2,m3⟩) (L:=[(7,.ref Q.m),(0,zU i),(65,.ref J.length),(22,.ref zv.length)]) (J:=(zv++[.list []])++[.list (za (um (rank i) i).reverse)]) ⟨.rfl,⟨zv.length,[],rfl,(Gr.push _).get zA,(λzz h=>nomatch h),JK _,gM (rank i) rfl⟩,rfl,rfl⟩;have b5:bh=ln T i:=b5;subst b5;exact⟨bl,zk,zI rfl rfl (zr (yu (y5 (zp (zx rfl) zf) rfl)) (zr (oj k) (zr (yu (y5 zf rfl)) (zr (xe (t:=.list (zv++[O.list []]).length) rfl (m6 (zx rfl) λzz=>Lc ((Gr.push _).get hc) (sO (by rw[H9];lia)) (by rewrite[H9];rewrite[za];rw[<-Gp];rfl)) zA rfl k') (zT (zL (zx b1))))))),g.tr (g2.tr g'),b2⟩
end
noncomputable def Mu(lim:Nat)(J zy:St):Prop:=J.length<=zy.length/\∀(r:Nat)(o:O),J[r]?=JS o->(lim<=r\/Io 1 o.ctorIdx=JQ)->zy[r]?=JS o
noncomputable def uF(T:Tb)(i g:Nat)(c:Bool):Tb:=match x9 T i g with
|[]=>match((T i).li c).contains g with|JQ=>T|JT=>u_ T i ((T i).putL c ((T i).li c++[g]))
|_=>T
noncomputable def oQ(T:Tb)(way i:Nat)(k k' s:List Nat)(e:Nat)(h:z7):Tb:=if way=7 then w9 T i (xB k ⟨e,none,i,[112,117,98,108,105,99],k⟩ (T i).ms)else if way=8 then w9 T i (xB k' ⟨e,h.b,h.o,h.s,h.n⟩ (T i).ms)else if(!zR s h.s||(y_ k (T i).ms).isNone)=JQ then w9 T i (xB k ⟨e,h.b,h.o,s,h.n⟩ (T i).ms)else T
noncomputable def vN(T:Tb)(way i g:Nat)(k k' s:List Nat)(num e:Nat):List Nat×Tb:=if way<3 then([],w9 T i (xB k ⟨e,JS ([64]++uQ num),i,s,k⟩ (T i).ms))else if way<6 then(x9 T i g,uF T i g (way==4))else if way=6 then(match(y_ k (T i).ms).bind live with|JS _=>([],w9 T i (ra k (T i).ms))|none=>([78,97,109,101,69,114,114,111,114],T))else match vV T i k with|none=>([78,97,109,101,69,114,114,111,114],T)|JS h=>([],oQ T way i k k' s e h)
section
variable{b:Bc}{d lim:Nat}{q:Bool}{J yx zt zy zv:St}{T T':Tb}{Q:Mt}{i g n:Nat}{k:List Nat}{L:Loc}{c:Bool}
theorem Mu.of(h:Gr J zy):Mu lim J zy:=⟨h.1,λzz zz e zz=>h.get e⟩
theorem Mu.tr(a:Mu lim J zt)(c:Mu lim zt zy):Mu lim J zy:=⟨J4 a.1 c.1,λr o h e=>c.2 r o (a.2 r o h e) e⟩
theorem Mu.set{o p:O}(h:J[n]?=JS p)(hp:Io 1 p.ctorIdx=JT)(hn:n<lim):Mu lim J (J.set n o):=⟨by rw[IB];exact JK _,λr q e c=>zK e λz=>by
subst z;replace e:=h.symm.trans e;cases e;rcases c with c|c;.lia
.replace c:=hp.symm.trans c;cases c⟩
theorem W7{r:Row}{xs:List Nat}:(r.putL c xs).li c=xs:=if_pos rfl
theorem W6{r:Row}{xs:List Nat}{e:Bool}(h:e≠c):(r.putL c xs).li e=r.li e:=if_neg h
theorem MI.Lf(Z:MI Q lim J T)(hi:i<18){xs:List Nat}(hx:xs∈vt c i):MI Q lim (J.set (Q.la c i) (.list (za xs))) (u_ T i ((T i).putL c xs))/\Mu lim J (J.set (Q.la c i) (.list (za xs))):=by
 have hl:=Z.l i c hi;have nd:∀{r:Nat}{o:O},J[r]?=JS o->JG o.ctorIdx 0=JT->(J.set (Q.la c i) (.list (za xs)))[r]?=JS o:=λh ho=>zK h λe=>by rw[<-e,hl]at h;cases h;cases ho
 refine⟨⟨nd Z.m rfl,λj hj=>zK (Z.r j hj) λe=>Z.jr j i c hj hi e.symm,λj e hj=>?_,λj hj=>?_,Z.lt,Z.jl,Z.jr,Z.jd,Z.jm,Z.w.put (λe=>?_) (Z.w.ks i) (Z.w.nd i),zK Z.x (Z.jx i c hi),Z.lx,Z.jx⟩,Mu.set hl rfl ((Z.lt.2 i hi).2 c)⟩
 .by_cases h:Q.la e j=Q.la c i;.obtain⟨h1,h2⟩:=Z.jl j i e c hj hi h;subst h1 h2;rewrite[uZ];rw[W7];exact get_set hl
  .have:(u_ T i ((T i).putL c xs) j).li e=(T j).li e:=by
    by_cases h':j=i;.subst h';rw[uZ];exact W6 λz=>h (by rw[z])
    .rw[uY h']
   rw[this];exact zK (Z.l j e hj) (Hk h)
 .obtain this:(u_ T i ((T i).putL c xs) j).ms=(T j).ms:=by
   by_cases h':j=i;.subst h';rw[uZ];rfl
   .rw[uY h']
  rw[this];exact nd (Z.d j hj) rfl
 .by_cases h:e=c;.subst h;rw[W7];exact hx
  .rw[W6 h];exact Z.w.li i e
theorem MI.setM(Z:MI Q lim J T)(hi:i<18){ms:List (List Nat×z7)}(h1:∀p∈ms,p.1∈yH∧wQ p.2)(h2:(ms.map (·.1)).Nodup):MI Q lim (J.set (Q.da i) (.dict (yF xQ ms))) (w9 T i ms)∧Mu lim J (J.set (Q.da i) (.dict (yF xQ ms))):=by
 obtain hd:=Z.d i hi;have nd:∀{r:Nat}{o:O},J[r]?=JS o→JG o.ctorIdx 1=JT→(J.set (Q.da i) (.dict (yF xQ ms)))[r]?=JS o:=fun h ho=>zK h fun e=>by rw[←e,hd]at h;cases h;cases ho
 refine⟨⟨zK Z.m (Z.jm i hi),fun j hj=>nd (Z.r j hj) rfl,fun j e hj=>?_,fun j hj=>?_,Z.lt,Z.jl,Z.jr,Z.jd,Z.jm,Z.w.put (fun e=>Z.w.li i e) h1 h2,nd Z.x rfl,Z.lx,Z.jx⟩,Mu.set hd rfl (Z.lt.2 i hi).3⟩
 ·obtain this:(w9 T i ms j).li e=(T j).li e:=by
   unfold w9;by_cases h':j=i;·subst h';rw[uZ]
   ·rw[uY h']
  rw[this];exact nd (Z.l j e hj) rfl
 ·unfold w9;by_cases h':j=i;·subst h';rw[uZ];exact get_set hd
  ·rw[uY h'];exact zK (Z.d j hj) fun e=>h' (Z.jd j i hj hi e.symm)
theorem MI.lay(Z:MI Q lim J T)(hi:i<18)(hk:k∈yH){h:z7}(hh:wQ h):MI Q lim (J.set (Q.da i) (.dict (yF xQ (xB k h (T i).ms)))) (w9 T i (xB k h (T i).ms))/\Mu lim J (J.set (Q.da i) (.dict (yF xQ (xB k h (T i).ms)))):=Z.setM hi (λp hp=>(jD hp).elim (λe=>Z.w.ks i p e) λe=>by subst e;exact⟨hk,hh⟩) (eK (Z.w.nd i))
theorem NC(hi:i<18):plainS (z6 i)=JQ:=by
 obtain this:∀i<18,plainS (z6 i)=JQ:=by decide+kernel
 exact this i hi
theorem Nf{pl:Nat}{qs:List uS}{zs:List Nat}(hp:zv[pl]?=JS (.list (qs.map xh)))(hq:qs.map (·.2)=zs.map z6)(hz:zs.length≤100):∃zk,C3 (CL ⟨b,JT,JT,d⟩ L [32,5] (.list pl) (qs.map xh) (.loc 5) .nil zv.length (qs.map xh).length [] (zv++[.list []]) (za zs) zk) (Gr zv zk) (zk[zv.length]?=JS (.list (za zs))):=by
 obtain⟨acc,zk,k,k1,k2,k3⟩:=CL.go (F:=⟨b,JT,JT,d⟩) (L:=L) (xs:=[32,5]) (t:=.list pl) (elt:=(.loc 5)) (yd:=.nil) (n0:=zv.length) (l:=qs.map xh) (zs:=qs) (g:=fun zz z=>xh z) (JN _) (fun p z h=>by rewrite[JF];rw[h];rfl) (P:=fun p ys acc zk=>C3 (Gr zv zk) (acc.length≤p∧acc++ys.map (fun z=>V.str z.2)=qs.map fun z=>V.str z.2) (zk[zv.length]?=JS (.list acc))) (fun p ys acc zk h=>h.1.get hp) (by
  rintro p x ys acc zk hp hd⟨g,⟨hu,hv⟩,hc⟩;have yN:=(J9.mp hp).1;obtain PC:qs.length=zs.length:=by obtain this:=congrArg H6 hq;rwa [JN,JN]at this
  exact⟨_,zk,rfl,.inr ⟨zk,_,.inl ⟨rfl,rfl⟩,zx yz,hc,xN (by lia),g.set (JK _),⟨by rw[JO];exact Ik hu,by rw[J'];exact hv⟩,get_set hc⟩⟩) qs.length 0 qs [] (zv++[.list []]) rfl rfl ⟨Gr.push _,⟨JK _,rfl⟩,zA⟩;have e:acc=za zs:=by obtain k2:=k2.2;rw[HJ,IV]at k2;rw[k2,show(qs.map fun z=>V.str z.2)=(qs.map (·.2)).map V.str by rw[HT];rfl,hq,HT];rfl
 subst e;exact⟨zk,by rw[JN];exact k,k1,k3⟩
theorem Vz{j:Nat}(Z:MI Q lim J T)(xC:lim<=J.length)(ht:i∈targets)(hg:g=8\/g=9\/g=5)(hj:(Q.row i)[j]?=JS (.ref (Q.la c i)))(h5:j<5):∃zy,C3 (Call ⟨b,JT,JT,d+2⟩ (.fn 932) [.ref Q.m,zU i,zU g,.int j] J (.ok (.str (x9 T i g)) zy)) (MI Q lim zy (uF T i g c)) (Mu lim J zy):=by
 have hi:i<18:=by
  obtain this:∀i∈targets,i<18:=by decide
  exact this i ht
 have lZ:g<18:=by rcases hg with rfl|rfl|rfl<;>decide
 have e0:=zZ (F:=⟨b,JT,JT,d+1⟩) (L:=[(7,.ref Q.m),(0,zU i),(10,zU g),(77,.int j)]) (J:=J) (zx (x:=10) (v:=zU g) rfl) (zV (t:=z6 5)) (u6 (NC lZ) rfl);rw[nI (by decide) lZ]at e0;by_cases h:g=5;.subst h;have e:x9 T i 5=[84,121,112,101,69,114,114,111,114]:=if_pos rfl;unfold uF;rw[e];exact⟨J,zI rfl rfl (zT (ye e0 (zT (zL zV)))),Z,.of .rfl⟩
 .obtain e:x9 T i g=if(own T 2 g).contains i then[65,114,103,117,109,101,110,116,69,114,114,111,114]else[]:=if_neg h;rw[show(5==g)=JT from beq_false_of_ne (Hk h)]at e0;obtain⟨l,zt,qs,cp,g1,_,hl,hq,_⟩:=Vy (b:=b) (d:=d) Z xC lZ;obtain⟨zb,k,g2,hn⟩:=Nf (b:=b) (d:=d+1) (L:=[(7,.ref Q.m),(0,zU i),(10,zU g),(77,.int j)]) hl hq (J4 (Z.w.uI 2 g (JK _)) (by decide));have tv:=g1.tr g2;have Z2:=Z.gr tv;have v3:E ⟨b,JT,JT,d+1⟩ [(7,.ref Q.m),(0,zU i),(10,zU g),(77,.int j)] (.cmp .yQ (.loc 0) (.comp (.loc 5) [32,5] .plain (.call (.zu 116) (.cons (.loc 7) (.cons (.loc 10) .nil))) .nil)) J (.ok (.bool ((own T 2 g).contains i)) zb):=by refine zZ (zx (v:=zU i) rfl) (sj (t:=.list l) rfl rfl rfl (yY rfl (zx rfl) (zx rfl) cp) hl k) ?_;rw[<-mP hi (ko Z.w 2 lZ)];exact(mG hn (kT _)).1
  rw[e];cases hc:(own T 2 g).contains i with|true=>rw[hc]at v3 e;obtain e:x9 T i g=[65,114,103,117,109,101,110,116,69,114,114,111,114]:=e;unfold uF;rw[e];exact⟨zb,zI rfl rfl (zr (zO e0 zj) (zT (ye v3 (zT (zL zV))))),Z2,.of tv⟩|false=>rw[hc]at v3 e;obtain e:x9 T i g=[]:=e;obtain eS:=Z2.l i c hi;obtain er:=oG (b:=b) (d:=d+1) (q:=JT) (L:=[(7,.ref Q.m),(0,zU i),(10,zU g),(77,.int j)]) Z2 hi rfl (zx (x:=0) (v:=zU i) rfl) (zx (x:=77) (v:=.int j) rfl) hj h5;obtain ec:=zZ (zx (x:=10) (v:=zU g) rfl) er (j8 lZ (λy hy=>by rcases Z.w.pf hy with e|e|e<;>rw[e]<;>decide) eS);obtain fin:∀{zv:St},XB ⟨b,JT,JT,d+1⟩ [(7,.ref Q.m),(0,zU i),(10,zU g),(77,.int j)] (.cons (.ret (.str [])) .nil) zv (.ok (.ret (.str [])) [(7,.ref Q.m),(0,zU i),(10,zU g),(77,.int j)] zv):=zT (zL zV);unfold uF;rw[e];cases f7:((T i).li c).contains g with|true=>rw[f7]at ec;exact⟨zb,zI rfl rfl (zr (zO e0 zj) (zr (zO v3 zj) (zr (zO ec zj) fin))),Z2,.of tv⟩|false=>rw[f7]at ec;obtain⟨Z3,m3⟩:=Z2.Lf hi (Wl Z.w ht hg e f7);exact⟨_,zI rfl rfl (zr (zO e0 zj) (zr (zO v3 zj) (zr (ye ec (zr (yJ (yo er (ug eS) (zp (zx rfl) zf) (by exact pI rfl eS (xN (by rw[JN];exact J4 (Z.w.two i c) (by decide))) (rR (m:=[g])).symm))) zj)) fin))),Z3,(Mu.of tv).tr m3⟩
end
noncomputable def uj(way i g:Nat)(k k' s:List Nat)(num:Nat):V:=.tup [.int way,zU i,zU g,.str k,.str k',.str s,.int num]
noncomputable def dL(m:Nat)(way i g:Nat)(k k' s:List Nat)(num da:Nat):Loc:=[(7,.ref m),(28,uj way i g k k' s num),(16,.int way),(0,zU i),(10,zU g),(8,.str k),(26,.str k'),(14,.str s),(17,.int num),(19,.ref da)]
theorem ltI(n m:Nat):decide ((n:Int)<(m:Int))=decide (n<m):=decide_eq_decide.mpr Int.ofNat_lt
theorem oF(n m:Nat):((n:Int)==(m:Int))=(n==m):=by
 by_cases h:n=m;.subst h;rewrite[beq_self_eq_true];rw[beq_self_eq_true]
 .rw[beq_false_of_ne h];exact beq_eq_false_iff_ne.mpr λe=>h (Int.ofNat.inj e)
theorem iT{num:Nat}(h:num<10):plainS ([64]++uQ num)=JQ/\short ([64]++uQ num)=JQ:=by
 obtain this:∀n<10,plainS ([64]++uQ n)=JQ/\short ([64]++uQ n)=JQ:=by decide+kernel
 exact this num h
theorem O'{T:Tb}{k:List Nat}{l:List Nat}:(zJ T k l).bind live=zJ T k l:=by cases h:zJ T k l with|none=>rfl|some x=>obtain⟨_,_,_,hb⟩:=pg h;show live x=JS x;unfold live;cases hx:x.b with|none=>exact absurd hx hb|some=>rfl
section
variable{b:Bc}{d lim:Nat}{q:Bool}{J yx zt zy zv:St}{T T':Tb}{Q:Mt}{i g n way num:Nat}{k k' s:List Nat}{L:Loc}{c:Bool}
theorem Yr{o:Option z7}(hL:lk 13 L=JS (xR o)):E ⟨b,JT,q,d⟩ L (.or (.cons (.cmp .is (.loc 13) .none) (.cons (.cmp .is (.sub (.loc 13) (.int 0)) .none) .nil))) J (.ok (.bool (o.bind live).isNone) J):=by cases o with|none=>exact sd (zZ (zx hL) zQ (yX rfl))|some h=>refine uP (zZ (zx hL) zQ (yX rfl)) (uO (zZ (yL (zx hL) yw (vo (j:=0) rfl (by decide))) zQ (yX ?_)));show isNone (match h.b with|JS t=>V.str t|none=>.none)=JS (live h).isNone;unfold live;cases h.b<;>rfl
theorem Ua{h:z7}(Z:MI Q lim J T)(hi:i<18)(hw:6<way)(hk:k∈yH)(wh:k'∈yH)(hs:s∈vd)(hh:wQ h)(l1:lk 13 L=JS (xQ h))(l2:lk 19 L=JS (.ref (Q.da i)))(l3:lk 8 L=JS (.str k))(l4:lk 26 L=JS (.str k'))(l5:lk 14 L=JS (.str s))(l6:lk 16 L=JS (.int way))(l7:lk 0 L=JS (zU i))(e:Nat):∃zy,C3 (XB ⟨b,JT,JT,d⟩ L (.cons (.cond (.cmp .eq (.loc 16) (.int 6)) (.cons (.expr (.zl (.loc 19) 69 (.cons (.loc 8) .nil))) .nil) (.cons (.cond (.cmp .eq (.loc 16) (.int 7)) (.cons (.y7 (.loc 19) (.loc 8) (.tup (.cons .none (.cons (.loc 0) (.cons (.str [112,117,98,108,105,99]) (.cons (.loc 8) .nil)))))) .nil) (.cons (.cond (.cmp .eq (.loc 16) (.int 8)) (.cons (.y7 (.loc 19) (.loc 26) (.loc 13)) .nil) (.cons (.cond (.or (.cons (.cmp .ne (.sub (.loc 13) (.int 2)) (.loc 14)) (.cons (.cmp .y9 (.loc 8) (.loc 19)) .nil))) (.cons (.y7 (.loc 19) (.loc 8) (.tup (.cons (.sub (.loc 13) (.int 0)) (.cons (.sub (.loc 13) (.int 1)) (.cons (.loc 14) (.cons (.sub (.loc 13) (.int 3)) .nil)))))) .nil) .nil) .nil)) .nil)) .nil)) (.cons (.ret (.str [])) .nil)) J (.ok (.ret (.str [])) L zy)) (Mu lim J zy) (MI Q lim zy (oQ T way i k k' s e h)):=by
 obtain hd:=Z.d i hi;obtain sh:=Z.w.short (f:=xQ) i;have eq:∀m:Nat,E ⟨b,JT,JT,d⟩ L (.cmp .eq (.loc 16) (.int m)) J (.ok (.bool (way==m)) J):=λm=>by rw[<-oF];exact zZ (zx l6) yw rj
 obtain e6:=eq 6;obtain e7:=eq 7;obtain e8:=eq 8;rw[beq_false_of_ne (show way≠6 by lia)]at e6;obtain Mm:∀s∈vd,plainS s=JQ:=by decide+kernel
 have set:∀{kk:List Nat}{h':z7}{ke ve:M},kk∈yH->wQ h'->E ⟨b,JT,JT,d⟩ L ke J (.ok (.str kk) J)->E ⟨b,JT,JT,d⟩ L ve J (.ok (xQ h') J)->∃zy,C3 (X1 ⟨b,JT,JT,d⟩ L (.y7 (.loc 19) ke ve) J (.ok .next L zy)) (Mu lim J zy) (MI Q lim zy (w9 T i (xB kk h' (T i).ms))):=λ{kk h' ke ve}a1 a2 a3 a4=>by obtain this:=ot rfl a4 (zx l2) a3 hd sh;rw[mC]at this;obtain⟨z1,z2⟩:=Z.lay hi a1 a2;exact⟨_,this,z2,z1⟩
 unfold oQ;by_cases h7:way=7;.rw[h7]at e7;rw[if_pos h7];obtain⟨zy,x,m,z⟩:=set (h':=⟨e,none,i,[112,117,98,108,105,99],k⟩) hk ⟨.head _,hk,nofun,hi⟩ (zx l3) (x_ (zp zQ (zp (zx l7) (zp zV (zp (zx l3) zf)))) rfl);exact⟨zy,zr (zO e6 (zr (ye e7 (zr x zj)) zj)) (zT (zL zV)),m,z⟩
 .rw[beq_false_of_ne h7]at e7;rw[if_neg h7];by_cases h8:way=8;.rw[h8]at e8;rw[if_pos h8];obtain⟨zy,x,m,z⟩:=set (h':=⟨e,h.b,h.o,h.s,h.n⟩) wh ⟨hh.s,hh.n,hh.b,hh.o⟩ (zx l4) (zx l1);exact⟨zy,zr (zO e6 (zr (zO e7 (zr (ye e8 (zr x zj)) zj)) zj)) (zT (zL zV)),m,z⟩
  .rw[beq_false_of_ne h8]at e8;rw[if_neg h8];have hc:=jX (F:=⟨b,JT,JT,d⟩) (L:=L) (u:=(y_ k (T i).ms).isNone) (zZ (yL (zx l1) yw (vo (j:=2) rfl (by decide))) (zx l5) (qF hh.ps.1 (Mm s hs))) λzz=>by obtain this:=zZ (F:=⟨b,JT,JT,d⟩) (L:=L) (zx l3) (zx l2) (mH (k:=k) hd).2;rw[qv]at this;rw[show(y_ k (T i).ms).isNone=!((y_ k (T i).ms).map xQ).isSome by cases y_ k (T i).ms<;>rfl];exact this
   cases hq:(!zR s h.s||(y_ k (T i).ms).isNone)with|false=>rw[hq]at hc;exact⟨J,zr (zO e6 (zr (zO e7 (zr (zO e8 (zr (zO hc zj) zj)) zj)) zj)) (zT (zL zV)),.of .rfl,Z⟩|true=>rw[hq]at hc;obtain⟨zy,x,m,z⟩:=set (h':=⟨e,h.b,h.o,s,h.n⟩) hk ⟨hs,hh.n,hh.b,hh.o⟩ (zx l3) (x_ (zp (yL (zx l1) yw (vo (j:=0) rfl (by decide))) (zp (yL (zx l1) yw (vo (j:=1) rfl (by decide))) (zp (zx l5) (zp (yL (zx l1) yw (vo (j:=3) rfl (by decide))) zf)))) rfl);exact⟨zy,zr (zO e6 (zr (zO e7 (zr (zO e8 (zr (ye hc (zr x zj)) zj)) zj)) zj)) (zT (zL zV)),m,z⟩
theorem MU(Z:MI Q lim J T)(xC:lim<=J.length)(ht:i∈targets)(hg:g=8\/g=9\/g=5)(hk:k∈yH)(wh:k'∈yH)(hs:s∈vd)(uz:num<10)(e:Nat):∃zy,C3 (Call ⟨b,JT,JT,d+4⟩ (.fn 939) [.ref Q.m,uj way i g k k' s num] J (.ok (.str (vN T way i g k k' s num e).1) zy)) (MI Q lim zy (vN T way i g k k' s num e).2) (Mu lim J zy):=by
 have hi:i<18:=by
  obtain this:∀i∈targets,i<18:=by decide
  exact this i ht
 have hd:=Z.d i hi;have sh:=Z.w.short (f:=xQ) i;obtain x0:=uC (F:=⟨b,JT,JT,d+3⟩) (L:=[(7,.ref Q.m),(28,uj way i g k k' s num)]) (xs:=[16,0,10,8,26,14,17]) (J:=J) rfl (zx (x:=28) (v:=uj way i g k k' s num) rfl) (L':=[(7,.ref Q.m),(28,uj way i g k k' s num),(16,.int way),(0,zU i),(10,zU g),(8,.str k),(26,.str k'),(14,.str s),(17,.int num)]) rfl;obtain x1:=yu (x:=19) (oG (b:=b) (d:=d+3) (q:=JT) (L:=[(7,.ref Q.m),(28,uj way i g k k' s num),(16,.int way),(0,zU i),(10,zU g),(8,.str k),(26,.str k'),(14,.str s),(17,.int num)]) Z hi rfl (zx (x:=0) (v:=zU i) rfl) yw (j:=3) rfl (by decide));have go:∀{v:V}{L':Loc}{zv:St},XB ⟨b,JT,JT,d+3⟩ (dL Q.m way i g k k' s num (Q.da i)) (.cons (.cond (.cmp .lt (.loc 16) (.int 3)) (.cons (.y7 (.loc 19) (.loc 8) (.tup (.cons (.bin .add (.str [64]) (.call (.zu 70) (.cons (.loc 17) .nil))) (.cons (.loc 0) (.cons (.loc 14) (.cons (.loc 8) .nil)))))) (.cons (.ret (.str [])) .nil)) .nil) (.cons (.cond (.cmp .lt (.loc 16) (.int 6)) (.cons (.ret (.call (.zu 175) (.cons (.loc 7) (.cons (.loc 0) (.cons (.loc 10) (.cons (.ite (.cmp .eq (.loc 16) (.int 4)) (.int 1) (.int 2)) .nil)))))) .nil) .nil) (.cons (.asg 13 (.ite (.cmp .eq (.loc 16) (.int 6)) (.zl (.loc 19) 49 (.cons (.loc 8) .nil)) (.call (.zu 73) (.cons (.loc 7) (.cons (.call (.zu 54) (.cons (.loc 7) (.cons (.loc 0) .nil))) (.cons (.loc 8) .nil)))))) (.cons (.cond (.or (.cons (.cmp .is (.loc 13) .none) (.cons (.cmp .is (.sub (.loc 13) (.int 0)) .none) .nil))) (.cons (.cond (.or (.cons (.cmp .eq (.loc 16) (.int 6)) (.cons (.cmp .y9 (.loc 0) (.tup (.cons (.str [77]) (.cons (.str [78]) .nil)))) .nil))) (.cons (.ret (.str [78,97,109,101,69,114,114,111,114])) .nil) .nil) (.cons (.asg 13 (.call (.zu 73) (.cons (.loc 7) (.cons (.call (.zu 54) (.cons (.loc 7) (.cons (.str [79,98,106,101,99,116]) .nil))) (.cons (.loc 8) .nil))))) (.cons (.cond (.cmp .is (.loc 13) .none) (.cons (.ret (.str [78,97,109,101,69,114,114,111,114])) .nil) .nil) .nil))) .nil) (.cons (.cond (.cmp .eq (.loc 16) (.int 6)) (.cons (.expr (.zl (.loc 19) 69 (.cons (.loc 8) .nil))) .nil) (.cons (.cond (.cmp .eq (.loc 16) (.int 7)) (.cons (.y7 (.loc 19) (.loc 8) (.tup (.cons .none (.cons (.loc 0) (.cons (.str [112,117,98,108,105,99]) (.cons (.loc 8) .nil)))))) .nil) (.cons (.cond (.cmp .eq (.loc 16) (.int 8)) (.cons (.y7 (.loc 19) (.loc 26) (.loc 13)) .nil) (.cons (.cond (.or (.cons (.cmp .ne (.sub (.loc 13) (.int 2)) (.loc 14)) (.cons (.cmp .y9 (.loc 8) (.loc 19)) .nil))) (.cons (.y7 (.loc 19) (.loc 8) (.tup (.cons (.sub (.loc 13) (.int 0)) (.cons (.sub (.loc 13) (.int 1)) (.cons (.loc 14) (.cons (.sub (.loc 13) (.int 3)) .nil)))))) .nil) .nil) .nil)) .nil)) .nil)) (.cons (.ret (.str [])) .nil)))))) J (.ok (.ret v) L' zv)->Call ⟨b,JT,JT,d+4⟩ (.fn 939) [.ref Q.m,uj way i g k k' s num] J (.ok v zv):=λh=>zI rfl rfl (zr x0 (zr x1 h));have lt:∀m:Nat,E ⟨b,JT,JT,d+3⟩ (dL Q.m way i g k k' s num (Q.da i)) (.cmp .lt (.loc 16) (.int m)) J (.ok (.bool (decide (way<m))) J):=λm=>by rw[<-ltI];exact zZ (zx rfl) yw jy
 have eq:∀m:Nat,E ⟨b,JT,JT,d+3⟩ (dL Q.m way i g k k' s num (Q.da i)) (.cmp .eq (.loc 16) (.int m)) J (.ok (.bool (way==m)) J):=λm=>by rw[<-oF];exact zZ (zx rfl) yw rj
 obtain l3:=lt 3;obtain l6:=lt 6;unfold vN;by_cases h3:way<3;.rw[decide_eq_true h3]at l3;rw[if_pos h3];obtain sm:small (num:Int)=JQ:=Iw (by rw[GJ];exact J4 (Fs uz) (by decide));obtain this:=ot (F:=⟨b,JT,JT,d+3⟩) (L:=dL Q.m way i g k k' s num (Q.da i)) (v:=xQ ⟨e,JS ([64]++uQ num),i,s,k⟩) rfl (x_ (zp (yh zV (yC (g:=70) (x:=.loc 17) rfl (zx (v:=.int num) rfl) (YX (F5 _) sm)) (u9 (iT uz).2)) (zp (zx (x:=0) (v:=zU i) rfl) (zp (zx (x:=14) (v:=.str s) rfl) (zp (zx (x:=8) (v:=.str k) rfl) zf)))) rfl) (zx (x:=19) rfl) (zx (x:=8) (v:=.str k) rfl) hd sh;rw[mC]at this;obtain⟨z1,z2⟩:=Z.lay (h:=⟨e,JS ([64]++uQ num),i,s,k⟩) hi hk ⟨hs,hk,λt ht=>by cases ht;exact iT uz,hi⟩;exact⟨_,go (zT (ye l3 (zr this (zT (zL zV))))),z1,z2⟩
 rw[decide_eq_false h3]at l3;rw[if_neg h3];by_cases h6:way<6;.rw[decide_eq_true h6]at l6;rw[if_pos h6];obtain e4:=eq 4;cases h4:way==4 with|true=>rw[h4]at e4;obtain⟨zy,cm,z,m⟩:=Vz (b:=b) (d:=d+1) (c:=JQ) (j:=1) Z xC ht hg rfl (by decide);exact⟨zy,go (zr (zO l3 zj) (zT (ye l6 (zT (zL (y6 (yp rfl) (zp (zx rfl) (zp (zx rfl) (zp (zx rfl) (zp (wq e4 yw) zf)))) cm)))))),z,m⟩|false=>rw[h4]at e4;obtain⟨zy,cm,z,m⟩:=Vz (b:=b) (d:=d+1) (c:=JT) (j:=2) Z xC ht hg rfl (by decide);exact⟨zy,go (zr (zO l3 zj) (zT (ye l6 (zT (zL (y6 (yp rfl) (zp (zx rfl) (zp (zx rfl) (zp (zx rfl) (zp (wt e4 yw) zf)))) cm)))))),z,m⟩
 rw[decide_eq_false h6]at l6;rw[if_neg h6];obtain e6:=eq 6;by_cases oB:way=6
 .rw[beq_iff_eq.mpr oB]at e6;rw[if_pos oB];have h0:=yo (F:=⟨b,JT,JT,d+3⟩) (L:=dL Q.m way i g k k' s num (Q.da i)) (zx (x:=19) rfl) (tQ hd) (zp (zx (x:=8) (v:=.str k) rfl) zf) (qe (.inl hd));rw[qv]at h0;have hv:((y_ k (T i).ms).map xQ).getD .none=xR (y_ k (T i).ms):=by cases y_ k (T i).ms<;>rfl
  rw[hv]at h0;have hh:=Yr (b:=b) (d:=d+3) (q:=JT) (J:=J) (L:=st 13 (xR (y_ k (T i).ms)) (dL Q.m way i g k k' s num (Q.da i))) (o:=y_ k (T i).ms) rfl;have Yw:E ⟨b,JT,JT,d+3⟩ (st 13 (xR (y_ k (T i).ms)) (dL Q.m way i g k k' s num (Q.da i))) (.cmp .eq (.loc 16) (.int 6)) J (.ok (.bool JQ) J):=by obtain this:=zZ (F:=⟨b,JT,JT,d+3⟩) (J:=J) (L:=st 13 (xR (y_ k (T i).ms)) (dL Q.m way i g k k' s num (Q.da i))) (zx (x:=16) (v:=.int way) rfl) (yw (i:=6)) rj;rw[oB]at this⊢;exact this
  cases hl:(y_ k (T i).ms).bind live with|none=>rw[hl]at hh;exact⟨J,go (zr (zO l3 zj) (zr (zO l6 zj) (zr (yu (wq e6 h0)) (zT (ye hh (zT (ye (sd Yw) (zT (zL zV))))))))),Z,.of .rfl⟩|some h=>rw[hl]at hh;obtain⟨h',g1,g2⟩:=H2.mp hl;have hp:=Wq (F:=⟨b,JT,JT,d+3⟩) rfl hd (k:=k) (v:=xQ h') (by rewrite[qv];rw[g1];rfl) sh;rw[gB]at hp;obtain⟨z1,z2⟩:=Z.setM hi (λp hp=>Z.w.ks i p (nr (k:=k).mem hp)) ((nr.map _).nodup (Z.w.nd i));exact⟨_,go (zr (zO l3 zj) (zr (zO l6 zj) (zr (yu (wq e6 h0)) (zr (zO hh zj) (zr (ye Yw (zr (yJ (yo (zx rfl) (YS hd) (zp (zx rfl) zf) hp)) zj)) (zT (zL zV))))))),z1,z2⟩
 rw[beq_false_of_ne oB]at e6;rw[if_neg oB];obtain⟨l,zt,c1,g1,hl⟩:=iI (b:=b) (d:=d+1) Z xC hi;have Z1:=Z.gr g1;have c2:=iJ (b:=b) (d:=d+2) (k:=k) Z1 hl (ig Z.w hi);have x4:=yu (F:=⟨b,JT,JT,d+3⟩) (L:=dL Q.m way i g k k' s num (Q.da i)) (x:=13) (wt (a:=.zl (.loc 19) 49 (.cons (.loc 8) .nil)) e6 (xq (g:=73) (x:=.loc 7) (y:=.call (.zu 54) (.cons (.loc 7) (.cons (.loc 0) .nil))) (z:=.loc 8) rfl (zx rfl) (yY (g:=54) (x:=.loc 7) (y:=.loc 0) rfl (zx rfl) (zx rfl) c1) (zx rfl) c2));have hh:=Yr (b:=b) (d:=d+3) (q:=JT) (J:=zt) (L:=st 13 (xR (zJ T k (ln T i))) (dL Q.m way i g k k' s num (Q.da i))) (o:=zJ T k (ln T i)) rfl;rw[O']at hh;obtain WM:∀{h:z7}{l:List Nat},zJ T k l=JS h->wQ h:=λh=>let⟨j,_,h2,_⟩:=pg h;(Z.w.ks j _ h2).2;obtain YC:6<way:=by lia
 obtain nd:vV T i k=match zJ T k (ln T i)with|JS h=>JS h|none=>if yf i then none else zJ T k (ln T 2):=rfl;rw[nd];generalize hf:zJ T k (ln T i)=o at x4 hh⊢;have go':∀{v:V}{L':Loc}{zv:St},XB ⟨b,JT,JT,d+3⟩ (st 13 (xR o) (dL Q.m way i g k k' s num (Q.da i))) (.cons (.cond (.or (.cons (.cmp .is (.loc 13) .none) (.cons (.cmp .is (.sub (.loc 13) (.int 0)) .none) .nil))) (.cons (.cond (.or (.cons (.cmp .eq (.loc 16) (.int 6)) (.cons (.cmp .y9 (.loc 0) (.tup (.cons (.str [77]) (.cons (.str [78]) .nil)))) .nil))) (.cons (.ret (.str [78,97,109,101,69,114,114,111,114])) .nil) .nil) (.cons (.asg 13 (.call (.zu 73) (.cons (.loc 7) (.cons (.call (.zu 54) (.cons (.loc 7) (.cons (.str [79,98,106,101,99,116]) .nil))) (.cons (.loc 8) .nil))))) (.cons (.cond (.cmp .is (.loc 13) .none) (.cons (.ret (.str [78,97,109,101,69,114,114,111,114])) .nil) .nil) .nil))) .nil) (.cons (.cond (.cmp .eq (.loc 16) (.int 6)) (.cons (.expr (.zl (.loc 19) 69 (.cons (.loc 8) .nil))) .nil) (.cons (.cond (.cmp .eq (.loc 16) (.int 7)) (.cons (.y7 (.loc 19) (.loc 8) (.tup (.cons .none (.cons (.loc 0) (.cons (.str [112,117,98,108,105,99]) (.cons (.loc 8) .nil)))))) .nil) (.cons (.cond (.cmp .eq (.loc 16) (.int 8)) (.cons (.y7 (.loc 19) (.loc 26) (.loc 13)) .nil) (.cons (.cond (.or (.cons (.cmp .ne (.sub (.loc 13) (.int 2)) (.loc 14)) (.cons (.cmp .y9 (.loc 8) (.loc 19)) .nil))) (.cons (.y7 (.loc 19) (.loc 8) (.tup (.cons (.sub (.loc 13) (.int 0)) (.cons (.sub (.loc 13) (.int 1)) (.cons (.loc 14) (.cons (.sub (.loc 13) (.int 3)) .nil)))))) .nil) .nil) .nil)) .nil)) .nil)) (.cons (.ret (.str [])) .nil))) zt (.ok (.ret v) L' zv)->Call ⟨b,JT,JT,d+4⟩ (.fn 939) [.ref Q.m,uj way i g k k' s num] J (.ok v zv):=λh=>go (zr (zO l3 zj) (zr (zO l6 zj) (zr x4 h)));cases o with
 |some h=>obtain⟨zy,x,m,z⟩:=Ua (b:=b) (d:=d+3) (L:=st 13 (xR (JS h)) (dL Q.m way i g k k' s num (Q.da i))) (h:=h) Z1 hi YC hk wh hs (WM hf) rfl rfl rfl rfl rfl rfl rfl e;exact⟨zy,go' (zr (zO hh zj) x),z,(Mu.of g1).tr m⟩
 |none=>
  obtain RY:E ⟨b,JT,JT,d+3⟩ (st 13 (xR none) (dL Q.m way i g k k' s num (Q.da i))) (.cmp .eq (.loc 16) (.int 6)) zt (.ok (.bool JT) zt):=by obtain this:=zZ (F:=⟨b,JT,JT,d+3⟩) (L:=st 13 (xR none) (dL Q.m way i g k k' s num (Q.da i))) (J:=zt) (zx (x:=16) (v:=.int way) rfl) (yw (i:=(6:Nat))) rj;rw[oF,beq_false_of_ne oB]at this;exact this
  have hm:(([z6 8,z6 9]:List (List Nat)).any (zR (z6 i)))=!yf i:=by
   obtain this:∀i∈targets,(([z6 8,z6 9]:List (List Nat)).any (zR (z6 i)))=!yf i:=by decide+kernel
   exact this i ht
  have en:=uP RY (uO (zZ (zx (x:=0) (v:=zU i) rfl) (x_ (es:=.cons (.str [77]) (.cons (.str [78]) .nil)) (zp zV (zp zV zf)) rfl) (gT (l:=[z6 8,z6 9]) rfl).2));rw[hm,Bool.not_not]at en;cases wM:yf i with|true=>rw[wM]at en;exact⟨zt,go' (zT (ye hh (zT (ye en (zT (zL zV)))))),Z1,.of g1⟩|false=>rw[wM]at en;obtain⟨l2,zb,c3,g2,pY⟩:=iI (b:=b) (d:=d+1) (i:=2) Z1 (J4 xC g1.1) (by decide);have Z2:=Z1.gr g2;have tv:=g1.tr g2;obtain c4:=iJ (b:=b) (d:=d+2) (k:=k) Z2 pY (ig Z.w (by decide));have x6:=yu (F:=⟨b,JT,JT,d+3⟩) (L:=st 13 (xR none) (dL Q.m way i g k k' s num (Q.da i))) (x:=13) (xq (g:=73) (x:=.loc 7) (y:=.call (.zu 54) (.cons (.loc 7) (.cons (.str [79,98,106,101,99,116]) .nil))) (z:=.loc 8) rfl (zx rfl) (yY (g:=54) (x:=.loc 7) (y:=.str [79,98,106,101,99,116]) rfl (zx rfl) zV c3) (zx rfl) c4);simp only[Iv,if_false];generalize r_:zJ T k (ln T 2)=o2 at x6⊢;cases o2 with|none=>exact⟨zb,go' (zT (ye hh (zr (zO en zj) (zr x6 (zT (ye (zZ (zx rfl) zQ (yX rfl)) (zT (zL zV)))))))),Z2,.of tv⟩|some h=>obtain⟨zy,x,m,z⟩:=Ua (b:=b) (d:=d+3) (L:=st 13 (xR (JS h)) (st 13 (xR none) (dL Q.m way i g k k' s num (Q.da i)))) (h:=h) Z2 hi YC hk wh hs (WM r_) rfl rfl rfl rfl rfl rfl rfl e;exact⟨zy,go' (zr (ye hh (zr (zO en zj) (zr x6 (zr (zO (zZ (zx rfl) zQ (yX rfl)) zj) zj)))) x),z,(Mu.of tv).tr m⟩
end
noncomputable def W8(h:z7):V:=.tup [match h.b with|JS t=>.str t|none=>.none,.str (uf h.o),.str h.s,.str h.n]
noncomputable def tC:Option z7->V|JS h=>W8 h|none=>.none
section
variable{b:Bc}{d lim:Nat}{q:Bool}{J yx zt zy zv:St}{T T':Tb}{Q:Mt}{i g n:Nat}{k:List Nat}{L:Loc}{D:Dt}
theorem Vx{o:Option z7}(R:RI J D)(h:∀x,o=JS x->C3 (J[x.e]?=JS (.inst 256 (D.wm x))) (D.on x.o=JQ) (wQ x)):Call ⟨b,JT,JT,d+5⟩ (.fn 953) [vj o] J (.ok (tC o) J):=by cases o with|none=>exact zI rfl rfl (zT (zL (wq (zZ (zx rfl) zQ (yX rfl)) zQ)))|some x=>obtain⟨h1,h2,h3⟩:=h x rfl;exact zI rfl rfl (zT (zL (wt (zZ (zx rfl) zQ (yX rfl)) (x_ (zp (zM (zx rfl) h1 rfl rfl) (zp (yC rfl (zM (zx rfl) h1 rfl rfl) (cf R h2 h3.o (o9 R.s h2 h3.o))) (zp (zM (zx rfl) h1 rfl rfl) (zp (zM (zx rfl) h1 rfl rfl) zf)))) rfl))))
noncomputable def lK:List (List Nat×V):=[([60,97,62],.str [35,60,65,62]),([60,99,62],.str [35,60,66,62])]
noncomputable def rX(o:Nat):List Nat:=if o=10 then[35,60,65,62]else if o=11 then[35,60,66,62]else((z6 o).drop 1).dropLast
theorem Oh{o:Nat}(h:o<18):(zG (z6 o) lK).getD (.str ((z6 o).drop 1).dropLast)=.str (rX o):=by
 show((match zR (z6 o) (z6 10)with|JQ=>JS (V.str [35,60,65,62])|JT=>match zR (z6 o) (z6 11)with|JQ=>JS (V.str [35,60,66,62])|JT=>none).getD _)=_;rewrite[nI h (by decide)];rw[nI h (by decide)];unfold rX;by_cases h1:o=10;.subst h1;rfl
 .by_cases h2:o=11;.subst h2;rfl
  .rewrite[beq_false_of_ne h1];rewrite[beq_false_of_ne h2];rewrite[if_neg h1];rw[if_neg h2];rfl
theorem Og{o:Nat}(h:o<18):X2 λc r=>C6 (z6 o=c::r) (plainS [c]=JQ) (short (z6 o)=JQ) ((match zR [60] [c]with|JQ=>zR ([35,60,67,108,97,115,115,58]++rX o++[62]) (uf o)|JT=>zR (z6 o) (uf o))=JQ) (short ([35,60,67,108,97,115,115,58]++rX o)=JQ) (short ([35,60,67,108,97,115,115,58]++rX o++[62])=JQ):=by
 obtain this:∀o<18,(match z6 o with|c::r=>plainS [c]&&(short (z6 o)&&((match zR [60] [c]with|JQ=>zR ([35,60,67,108,97,115,115,58]++rX o++[62]) (uf o)|JT=>zR (z6 o) (uf o))&&(short ([35,60,67,108,97,115,115,58]++rX o)&&short ([35,60,67,108,97,115,115,58]++rX o++[62]))))|[]=>JT)=JQ:=by decide+kernel
 obtain this:=this o h;cases hm:z6 o with|nil=>rw[hm]at this;cases this|cons c r=>simp only[hm]at this;obtain⟨h1,this⟩:=zh this;obtain⟨h2,this⟩:=zh this;obtain⟨h3,this⟩:=zh this;obtain⟨h4,h5⟩:=zh this;exact⟨c,r,rfl,h1,h2,h3,h4,h5⟩
theorem MQ{o:Option z7}(h:∀x,o=JS x->x.o<18):∃zy,Call ⟨b,JT,JT,d+1⟩ (.fn 960) [xR o] J (.ok (tC o) zy)/\Gr J zy:=by cases o with|none=>exact⟨J,zI rfl rfl (zT (ye (zZ (zx rfl) zQ (yX rfl)) (zT (zL zQ)))),.rfl⟩|some x=>obtain hx:=h x rfl;obtain⟨c,r,hm,h1,h2,h3,h4,h5⟩:=Og hx;obtain g:Gr J ((J++[O.dict []]).set J.length (.dict lK)):=(Gr.push _).set (JK _);obtain hd:((J++[O.dict []]).set J.length (.dict lK))[J.length]?=JS (.dict lK):=get_set zA;have e1:∀{L:Loc}{zv:St},lk 13 L=JS (xQ x)->E ⟨b,JT,JT,d⟩ L (.sub (.loc 13) (.int 1)) zv (.ok (.str (z6 x.o)) zv):=λhl=>yL (zx hl) yw (vo (j:=1) rfl (by decide));obtain x1:=yu (F:=⟨b,JT,JT,d⟩) (L:=[(13,xQ x)]) (x:=135) (J:=J) (yo (o:=.wg (.kv (.str [60,97,62]) (.str [35,60,65,62]) (.kv (.str [60,99,62]) (.str [35,60,66,62]) .nil))) (Ys rfl (dh zV zV (dh zV zV XA)) zA rfl) (tQ hd) (zp (e1 rfl) (zp (Ym (e1 rfl) λzz zz=>VW h2) zf)) (lC (.inl hd)));rw[Oh hx]at x1;refine⟨_,zI rfl rfl (zr (zO (zZ (zx rfl) zQ (yX rfl)) zj) (zr x1 (zT (zL (x_ (zp (yL (zx rfl) yw (vo (j:=0) rfl (by decide))) (zp (v:=.str (uf x.o)) ?_ (zp (yL (zx rfl) yw (vo (j:=2) rfl (by decide))) (zp (yL (zx rfl) yw (vo (j:=3) rfl (by decide))) zf)))) rfl))))),g⟩;obtain ec:=zZ (F:=⟨b,JT,JT,d⟩) (L:=[(13,xQ x),(135,.str (rX x.o))]) (J:=(J++[O.dict []]).set J.length (.dict lK)) (yL (e1 rfl) yw (cO (j:=0) (by rw[hm];rfl) (by decide))) (zV (t:=[60])) (u6 h1 rfl);cases hc:zR [60] [c]with|true=>rw[hc]at ec h3;rw[<-xj.mp h3];exact wq ec (yh (yh zV (zx rfl) (u9 h4)) zV (u9 h5))|false=>rw[hc]at ec h3;rw[<-xj.mp h3];exact wt ec (e1 rfl)
noncomputable def uR(o:Nat):List Nat->List Nat|[]=>[]|x::r=>match x==o with|JQ=>r|JT=>uR o r
theorem jV{o:Nat}:∀l:List Nat,wH T k o l=zJ T k (uR o l)|[]=>rfl|x::r=>by show(match x==o with|JQ=>zJ T k r|JT=>wH T k o r)=zJ T k (match x==o with|JQ=>r|JT=>uR o r);cases x==o with|true=>rfl|false=>exact jV r
theorem bO{o:Nat}(ho:o<18):∀{l:List Nat},(∀x∈l,x<18)->l.contains o=JQ->∃j,(l.map z6).findIdx? (zR (z6 o))=JS j/\l.drop (j+1)=uR o l|x::r,hl,h=>by rewrite[It];rewrite[GW];rewrite[nI ho (hl x (.head _))];rw[BEq.comm];unfold uR;cases q:x==o with|true=>exact⟨0,rfl,rfl⟩|false=>rw[Iy,BEq.comm,q,Gj]at h;obtain⟨j,h1,h2⟩:=bO ho (λy hy=>hl y (.tail _ hy)) h;exact⟨j+1,by simp only[h1,Iv,if_false,Option.map_some],h2⟩
theorem bM{o:Nat}:∀{l:List Nat},l.contains o=JT->uR o l=[]|[],zo=>rfl|x::r,h=>by rw[Iy,BEq.comm]at h;obtain⟨h1,h2⟩:=IS.mp h;unfold uR;rw[h1];exact bM h2
theorem bN{o:Nat}:∀{l:List Nat},(∀x∈l,x<18)->∀x∈uR o l,x<18|y::r,hl,x,hx=>by unfold uR at hx;cases q:y==o with|true=>rw[q]at hx;exact hl x (.tail _ hx)|false=>rw[q]at hx;exact bN (λz hz=>hl z (.tail _ hz)) x hx
noncomputable def sF(T:Tb)(k:List Nat)(ns:List Nat):List (Option z7):=match zJ T k ns with|none=>[none]|JS h=>[JS h,wH T h.n h.o ns]
theorem ND{l:List Nat}{n:Nat}:(za l).drop n=za (l.drop n):=FA.symm
theorem MR{l:Nat}{ns:List Nat}(Z:MI Q lim J T)(hl:J[l]?=JS (.list (za ns)))(hn:∀y∈ns,y<18)(hlen:ns.length<=900):X2 λr zy=>C3 (Call ⟨b,JT,JT,d+2⟩ (.fn 967) [.ref Q.m,.ref l,.str k] J (.ok (.ref r) zy)) (Gr J zy) (zy[r]?=JS (.list ((sF T k ns).map xR))):=by
 have x0:=yu (F:=⟨b,JT,JT,d+1⟩) (L:=[(7,.ref Q.m),(33,.ref l),(8,.str k)]) (x:=58) (xq (g:=73) (x:=.loc 7) (y:=.loc 33) (z:=.loc 8) rfl (zx rfl) (zx rfl) (zx rfl) (iJ (b:=b) (d:=d) (k:=k) Z hl hn));unfold sF;cases hf:zJ T k ns with
 |none=>rw[hf]at x0;exact⟨_,_,zI rfl rfl (zr x0 (zT (ye (zZ (zx rfl) zQ (yX rfl)) (zT (zL (y5 (zp zQ zf) rfl)))))),Gr.push _,zA⟩
 |some h=>
  rw[hf]at x0;obtain⟨_,hi,hm,_⟩:=pg hf;have hh:=(Z.w.ks _ _ hm).2;have e1:∀{L:Loc}{zv:St},lk 58 L=JS (xQ h)->E ⟨b,JT,JT,d+1⟩ L (.sub (.loc 58) (.int 1)) zv (.ok (.str (z6 h.o)) zv):=λhl=>yL (zx hl) yw (vo (j:=1) rfl (by decide));obtain v3:=zZ (F:=⟨b,JT,JT,d+1⟩) (L:=[(7,.ref Q.m),(33,.ref l),(8,.str k),(58,xQ h)]) (J:=J) (e1 rfl) (zx (x:=33) rfl) (mG hl (kT _)).1;rw[mP hh.o hn]at v3;obtain⟨rl,zv,er,gr,PA⟩:X2 λrl zv=>C3 (E ⟨b,JT,JT,d+1⟩ [(7,.ref Q.m),(33,.ref l),(8,.str k),(58,xQ h)] (.ite (.cmp .yQ (.sub (.loc 58) (.int 1)) (.loc 33)) (.qR (.loc 33) (.bin .add (.zl (.loc 33) 138 (.cons (.sub (.loc 58) (.int 1)) .nil)) (.int 1))) (.lst .nil)) J (.ok (.ref rl) zv)) (Gr J zv) (zv[rl]?=JS (.list (za (uR h.o ns)))):=by cases hc:ns.contains h.o with|true=>rw[hc]at v3;obtain⟨j,j1,j2⟩:=bO hh.o hn hc;refine⟨_,_,wq v3 (Yl (zx (v:=.ref l) rfl) (yh (yo (zx (v:=.ref l) rfl) (Qz hl) (zp (e1 rfl) zf) (Nj hl (kT _) j1 (sO (by lia)))) yw gY) λzz=>VX (by lia) hl (sO (by lia)) rfl),Gr.push _,?_⟩;rewrite[zA];rewrite[ND];rw[<-j2];rfl|false=>rw[hc]at v3;rw[bM hc];exact⟨_,_,wt v3 (y5 zf rfl),Gr.push _,zA⟩
  obtain c2:=iJ (b:=b) (d:=d) (k:=h.n) (Z.gr gr) PA (bN hn);refine⟨_,_,zI rfl rfl (zr x0 (zr (zO (zZ (zx rfl) zQ (yX rfl)) zj) (zr (yu er) (zT (zL (y5 (zp (zx rfl) (zp (xq rfl (zx rfl) (zx rfl) (yL (zx rfl) yw (vo (j:=3) rfl (by decide))) c2) zf)) rfl)))))),gr.tr (Gr.push _),?_⟩;rw[zA,show((match JS h with|none=>[none]|JS h=>[JS h,wH T h.n h.o ns]:List (Option z7)).map xR)=[xR (JS h),xR (wH T h.n h.o ns)]from rfl,jV]
end
structure LE(T:Tb)(on:Nat->Bool)(l l':List Nat):Prop where
 f:∀k,zJ T k l=zJ T k l'
 b:∀k o,on o=true->wH T k o l=wH T k o l'
 c:∀y,on y=true->l.contains y=l'.contains y
section
variable{T:Tb}{on:Nat->Bool}{j:Nat}{l l':List Nat}
theorem LE.re:LE T on l l:=⟨λzz=>rfl,λzz zz zz=>rfl,λzz zz=>rfl⟩
theorem LE.tr{m:List Nat}(a:LE T on l m)(c:LE T on m l'):LE T on l l':=⟨λk=>(a.f k).trans (c.f k),λk o h=>(a.b k o h).trans (c.b k o h),λy h=>(a.c y h).trans (c.c y h)⟩
theorem YO(h:(T j).ms=[]){k:List Nat}:zJ T k (j::l)=zJ T k l:=by show(match y_ k (T j).ms with|JS h=>live h|none=>zJ T k l)=_;rw[h];rfl
theorem jR(h:(T j).ms=[]){p:Nat->Bool}(hp:∀x,p x=JT->x=j){k:List Nat}:∀l:List Nat,zJ T k (l.filter p)=zJ T k l|[]=>rfl|x::l=>by cases q:p x with|true=>rewrite[Ib];rw[q];show(match y_ k (T x).ms with|JS h=>live h|none=>zJ T k (l.filter p))=(match y_ k (T x).ms with|JS h=>live h|none=>zJ T k l);rw[jR h hp l]|false=>rewrite[Ib];rewrite[q];rewrite[hp x q];rw[YO h];exact jR h hp l
theorem LE.YV(h:(T j).ms=[])(yb:on j=JT){p:Nat->Bool}(hp:∀x,p x=JT->x=j)(l:List Nat):LE T on (l.filter p) l:=by
 refine⟨λk=>jR h hp l,λk o ho=>?_,λy hy=>?_⟩
 .induction l with
  |nil=>rfl
  |cons x l ih=>
   cases q:p x with
   |true=>rewrite[Ib];rw[q];show(match x==o with|JQ=>zJ T k (l.filter p)|JT=>wH T k o (l.filter p))=(match x==o with|JQ=>zJ T k l|JT=>wH T k o l);rewrite[ih];rw[jR h hp l]
   |false=>
    rewrite[Ib];rw[q];obtain e:(x==o)=JT:=beq_false_of_ne λe=>by rw[<-e,hp x q,yb]at ho;cases ho
    show wH T k o (l.filter p)=(match x==o with|JQ=>zJ T k l|JT=>wH T k o l);rw[e];exact ih
 .induction l with|nil=>rfl|cons x l ih=>cases q:p x with|true=>rewrite[Ib];rewrite[q];rewrite[if_pos rfl];rewrite[Iy];rewrite[Iy];rw[ih]|false=>rw[Ib,q,Iy,show(y==x)=JT from beq_false_of_ne λe=>by rw[e,hp x q,yb]at hy;cases hy];exact ih
theorem LE.cons(h:(T j).ms=[])(yb:on j=JT):LE T on (j::l) l:=by
 refine⟨λk=>YO h,λk o ho=>?_,λy hy=>?_⟩
 .obtain e:(j==o)=JT:=beq_false_of_ne λe=>by rw[<-e,yb]at ho;cases ho
  show(match j==o with|JQ=>zJ T k l|JT=>wH T k o l)=_;rw[e]
 .obtain e:(y==j)=JT:=beq_false_of_ne λe=>by rw[e,yb]at hy;cases hy
  rewrite[Iy];rewrite[e];rw[Gj]
theorem LE.step(h0:∀c,(T j).li c=[])(h:(T j).ms=[])(yb:on j=JT)(bh:List Nat):LE T on (step T j bh) bh:=by
 obtain o2:own T 2 j=[j]:=by unfold own;rewrite[h0];rw[h0];rfl
 obtain a0:xT T j=0:=by unfold xT;rw[h0];rfl
 unfold Mine.step;rewrite[o2];rw[a0];show LE T on (qI (if !bh.contains j then[j]else[]) bh) bh;cases bh.contains j with|false=>show LE T on (j::bh.filter λx=>![j].contains x) bh;refine(LE.cons h yb).tr (LE.YV h yb (λx hx=>?_) bh);rw[Iy,show([]:List Nat).contains x=JT from rfl,Bool.or_false,Bool.not_eq_false']at hx;exact eq_of_beq hx|true=>show LE T on (bh.filter λx=>!([]:List Nat).contains x) bh;exact LE.YV h yb (λx(hx:JQ=JT)=>nomatch hx) bh
theorem LE.dead{D:Dt}(s:v9 D){j p:Nat}(h:D.on j=JT)(hp:par j=JS p):LE D.T D.on (ln D.T j) (ln D.T p):=by
 obtain⟨h1,h2⟩:=s.un j h;have j2:JG j 2=JT:=by cases q:JG j 2 with|false=>rfl|true=>obtain this:=JD q;subst this;rw[s.om 2 (by decide) (by decide)]at h;cases h
 rw[nN hp];exact LE.step (λc=>by rewrite[h1 c];rw[j2];rfl) h2 h _
theorem LE.up{D:Dt}(s:v9 D):∀(n:Nat){x j:Nat},x<18->yf x=JQ->rank x<n->yr x=JS j->LE D.T D.on (ln D.T j) (ln D.T ((uW D.on n x).getD 4))
|0,zo,zY,zH,ya,h,xk=>nomatch h
|n+1,x,j,hx,hc,hr,ho=>by
 unfold uW;rw[ho];cases yb:D.on j with
 |true=>rewrite[IE];rw[if_pos yb];exact .re
 |false=>
  rewrite[IE];rw[if_neg (by rw[yb];exact IZ)];have op:=cw ho;have qz:Io x 18=JQ:=Iw hx;rw[qz,G4,hc]at op;cases hp:par x with
  |none=>rw[hp]at op;exact LE.dead s yb op
  |some p=>
   rw[hp]at op;obtain⟨k,p1,p2,p3,p4⟩:=op;have pc:yf p=JQ:=by
    have:∀x<18,yf x=JQ->(match par x with|JS p=>yf p|none=>JQ)=JQ:=by decide+kernel
    have:=this x hx hc;rw[hp]at this;exact this
   exact(LE.dead s yb p2).tr (LE.up s n p3 pc (by lia) p1)
theorem LE.own{D:Dt}(s:v9 D){x j:Nat}(hx:D.on x=JQ)(ho:yr x=JS j):LE D.T D.on (ln D.T j) (ln D.T (y' D.on x)):=by
 unfold y';rw[ho];cases yb:D.on j with
 |true=>rewrite[IE];rw[if_pos yb];exact .re
 |false=>
  rewrite[IE];rw[if_neg (by rw[yb];exact IZ)];obtain op:=cw ho;rcases s.bd x hx with h|rfl|rfl
  .obtain qz:Io x 18=JQ:=Iw h;simp only[if_pos qz];rw[qz,G4]at op;cases hc:yf x with
   |false=>rw[hc]at op;exact LE.dead s yb op
   |true=>
    rw[hc]at op;cases hp:par x with
    |none=>rw[hp]at op;exact LE.dead s yb op
    |some p=>
     rw[hp]at op;obtain⟨k,p1,p2,p3,p4⟩:=op;obtain pc:yf p=JQ:=by
      obtain this:∀x<18,yf x=JQ->(match par x with|JS p=>yf p|none=>JQ)=JQ:=by decide+kernel
      obtain this:=this x h hc;rw[hp]at this;exact this
     exact(LE.dead s yb p2).tr (LE.up s 7 p3 pc (by obtain this:=kY h;lia) p1)
  .exact LE.dead s yb op
  .exact LE.dead s yb op
end
theorem lq{bh:List Nat}{cnt:Nat}{x:Nat}:∀(ys acc:List Nat)(p:Nat),x∈acc\/x∈ys->x∈here bh cnt p acc ys\/x∈bh
|[],acc,p,h=>.inl (h.resolve_right λh=>nomatch h)
|y::ys,acc,p,h=>by
 show x∈here bh cnt (p+1) (if !acc.contains y&&(decide ((p:Int)<cnt)||!bh.contains y)then acc++[y]else acc) ys\/x∈bh;have mono:x∈acc->x∈(if !acc.contains y&&(decide ((p:Int)<cnt)||!bh.contains y)then acc++[y]else acc):=λh=>by
  split;.exact HN _ h
  .exact h
 rcases h with h|h;.exact lq ys _ (p+1) (.inl (mono h))
 .rcases JJ.mp h with e|h;.subst e;cases h1:acc.contains x with|true=>exact lq ys _ (p+1) (.inl (by rw[h1]at mono;exact mono (I3.mp h1)))|false=>cases h2:bh.contains x with|true=>exact .inr (I3.mp h2)|false=>exact lq ys _ (p+1) (.inl (by rewrite[EX];rw[GZ];exact He _ (.head _)))
  .exact lq ys _ (p+1) (.inr h)
theorem Nz(T:Tb)(i:Nat):i∈ln T i:=by
 have st:∀bh,i∈step T i bh:=λbh=>by
  obtain hi:i∈own T 2 i:=He _ (.head _);unfold step qI;rcases lq (bh:=bh) (cnt:=xT T i) (own T 2 i) [] 0 (.inr hi)with h|h;.exact HN _ h
  .by_cases q:i∈here bh (xT T i) 0 [] (own T 2 i);.exact HN _ q
   .refine He _ (Hd.mpr ⟨h,?_⟩);cases z:(here bh (xT T i) 0 [] (own T 2 i)).contains i with|false=>rfl|true=>exact absurd (I3.mp z) q
 cases hp:par i with|none=>rw[lF hp];exact st _|some p=>rw[nN hp];exact st _
noncomputable def iU:V->Bool|.ref zo=>JT|_=>JQ
section
variable{J zv zk:St}{D:Dt}{i n:Nat}{acc:List V}{o:O}
theorem N9(h:acc.all iU=JQ):acc≠rf D.ad (ln D.T i):=λe=>by
 obtain this:V.ref (D.ad i)∈acc:=by rw[e];exact IG.mpr ⟨D.ad i,IG.mpr ⟨i,Nz D.T i,rfl⟩,rfl⟩
 obtain this:=Iz.mp h _ this;cases this
theorem RI.put(R0:RI zv D)(R:RI zk D)(hn:zv.length<=n)(h:zk[n]?=JS (.list acc))(ha:acc.all iU=JQ):RI (zk.set n o) D:=by
 have ne:∀{r:Nat}{p:O},zv[r]?=JS p->n≠r:=λh e=>by obtain this:=y0 h;lia
 obtain⟨n0,m0,w0,_⟩:=R0.wo;obtain⟨d0,tJ,_⟩:=R0.md;obtain⟨num,main,hw,hl⟩:=R.wo;obtain⟨md,h1,h2⟩:=R.md;refine⟨⟨num,main,zK hw (ne w0),hl⟩,⟨md,zK h1 (ne tJ),h2.to λa s⟨fs,e,z⟩=>⟨fs,zK e (λq=>by rw[<-q,h]at e;cases e),z⟩⟩,zK R.c0 (ne R0.c0),zK R.c1 (ne R0.c1),zK R.n0 (ne R0.n0),zK R.n1 (ne R0.n1),zK R.kn (ne R0.kn),λi hi hm=>?_,λi hi hm=>zK (R.mm i hi hm) (ne (R0.mm i hi hm)),λi hi hm p hp=>⟨zK (R.ee i hi hm p hp).1 (ne (R0.ee i hi hm p hp).1),(R.ee i hi hm p hp).2⟩,λi c hi hm=>zK (R.ll i c hi hm) (ne (R0.ll i c hi hm)),λi hi hm=>?_,R.s⟩;.obtain⟨_,_,_,q,_⟩:=R0.oo i hi hm;obtain⟨kp,a1,a3,g1,g2⟩:=R.oo i hi hm;exact⟨kp,a1,a3,zK g1 (ne q),g2.imp id λ⟨v,l,e1,e2,e3⟩=>⟨v,l,e1,e2,λz=>⟨(e3 z).1,zK (e3 z).2 λq=>N9 ha (by obtain this:=(e3 z).2;rw[<-q,h]at this;injection this with this;injection this)⟩⟩⟩
 .obtain⟨_,q⟩:=R0.th i hi hm;obtain⟨a,g⟩:=R.th i hi hm;exact⟨a,zK g (ne q)⟩
theorem Ask.put(R0:RI zv D)(a:Ask D zv zk)(hn:zv.length<=n)(h:zk[n]?=JS (.list acc))(ha:acc.all iU=JQ):Ask D zv (zk.set n o):=by
 refine⟨R0.put a.r hn h ha,by rw[IB];exact a.k.1,λr p e=>?_⟩;obtain this:n≠r:=λz=>by obtain this:=y0 e;lia
 rcases a.k.2 r p e with q|⟨f,f',e1,q,z⟩;.exact .inl (zK q this)
 .exact .inr ⟨f,f',e1,zK q this,z⟩
theorem RI.mu(R:RI J D){lim:Nat}(xC:lim+2=D.w)(m:Mu lim J zv):RI zv D:=by
 obtain w2:=R.s.w2;obtain wk:=R.s.kn;have k:∀{r:Nat}{o:O},J[r]?=JS o->(lim<=r\/Io 1 o.ctorIdx=JQ)->zv[r]?=JS o:=λh=>m.2 _ _ h;obtain⟨num,main,hw,hl⟩:=R.wo;obtain⟨md,h1,h2⟩:=R.md;refine⟨⟨num,main,k hw (.inr rfl),hl⟩,⟨md,k h1 (.inl (by lia)),h2.to λa s⟨fs,e,z⟩=>⟨fs,k e (.inr rfl),z⟩⟩,k R.c0 (.inr rfl),k R.c1 (.inr rfl),k R.n0 (.inl (by lia)),k R.n1 (.inl (by lia)),k R.kn (.inl (by lia)),λi hi hm=>?_,λi hi hm=>k (R.mm i hi hm) (.inl (by obtain this:=(R.s.lo i hi).2;lia)),λi hi hm p hp=>⟨k (R.ee i hi hm p hp).1 (.inr rfl),(R.ee i hi hm p hp).2⟩,λi c hi hm=>k (R.ll i c hi hm) (.inl (by obtain this:=(R.s.lo i hi).3 c;lia)),λi hi hm=>?_,R.s⟩;.obtain⟨kp,a1,a3,g1,g2⟩:=R.oo i hi hm;exact⟨kp,a1,a3,k g1 (.inr rfl),g2.imp id λ⟨v,l,e1,e2,e3⟩=>⟨v,l,e1,e2,λz=>⟨(e3 z).1,k (e3 z).2 (.inl (by obtain this:=(e3 z).1;lia))⟩⟩⟩
 .obtain⟨a,g⟩:=R.th i hi hm;exact⟨a,k g (.inr rfl)⟩
theorem MI.ask{Q:Mt}{lim:Nat}{T:Tb}(Z:MI Q lim J T)(a:Kp J zv):MI Q lim zv T:=Z.to λzz zz zz n h=>a.get h n
theorem MI.lo{Q:Mt}{lim:Nat}{T:Tb}(Z:MI Q lim J T)(xC:lim+2=D.w)(a:Lo D J zv):MI Q lim zv T:=Z.to λzz zz l n h=>a.2 _ _ (by lia) n h
end
mutual
theorem Ye:∀v:V,PySem.PyData.eqv (conv v) (conv v)=JQ|.tup vs=>m4 vs|.bool b=>beq_self_eq_true b|.int i=>beq_self_eq_true i|.str s=>beq_self_eq_true (tx s)|.none|.ref zo|.fn zY|.cl zH|.bi ya|.ty xk=>rfl
theorem m4:∀vs:List V,FH (v_ vs) (v_ vs)=JQ|[]=>rfl|v::vs=>Gh.mpr ⟨Ye v,m4 vs⟩
end
noncomputable def aL(w x m j:Nat)(k:List Nat):Loc:=[(1,.ref w),(36,.ref x),(7,.ref m),(0,zU j),(8,.str k)]
noncomputable def bP(w x m j:Nat)(k:List Nat)(mo l r:Nat)(en:V):Loc:=[(1,.ref w),(36,.ref x),(7,.ref m),(0,zU j),(8,.str k),(2,.ref mo),(33,.ref l),(56,.ref r),(20,en)]
noncomputable def oS(w x m j:Nat)(k:List Nat)(mo l r:Nat)(en:V)(f:Nat):Loc:=[(1,.ref w),(36,.ref x),(7,.ref m),(0,zU j),(8,.str k),(2,.ref mo),(33,.ref l),(56,.ref r),(20,en),(4,.ref f)]
theorem Nr{h:z7}(w:wQ h):lvl 3 (W8 h)=JQ:=by
 obtain h1:∀o<18,plainS (uf o)=JQ:=by decide+kernel
 show(lvl 2 (match h.b with|JS t=>V.str t|none=>.none)&&(plainS (uf h.o)&&(plainS h.s&&(plainS h.n&&JQ))))=JQ;rewrite[h1 _ w.o];rewrite[w.ps.1];rw[w.ps.2];cases hb:h.b with|none=>rfl|some t=>show(plainS t&&JQ)=JQ;rw[(w.b t hb).1];rfl
section
variable{b:Bc}{d lim:Nat}{q:Bool}{J yx zt zy zv:St}{T T':Tb}{Q:Mt}{i g n x j:Nat}{k:List Nat}{L:Loc}{D:Dt}
theorem Pb(w:WF T){l:List Nat}:∀o∈sF T k l,∀h,o=JS h->wQ h:=λo ho h e=>by
 have ok:∀{k:List Nat}{l:List Nat}{h:z7},zJ T k l=JS h->wQ h:=λh=>let⟨j,_,h2,_⟩:=pg h;(w.ks j _ h2).2;unfold sF at ho;cases hf:zJ T k l with
 |none=>rw[hf]at ho;rw[JP.mp ho]at e;cases e
 |some h'=>
  rw[hf]at ho;rcases JJ.mp ho with e'|ho;.replace e:=yc e' e;cases e;exact ok hf
  .rw[JP.mp ho,jV]at e;exact ok e
theorem KU{mo l r f:Nat}(R0:RI yx D)(a:Ask D yx J)(ho:mo=D.ad i)(hi:D.on i=JQ)(hm:i<18)(e:LE D.T D.on (ln D.T j) (ln D.T i))(hf:yx.length<=f)(hl:J[f]?=JS (.list [tC (zJ D.T k (ln D.T i))])):∃zv,C3 (X1 ⟨b,JT,JT,d+22⟩ (oS D.w x Q.m j k mo l r (vj (zJ D.T k (ln D.T i))) f) (.cond (.cmp .yS (.loc 20) .none) (.cons (.expr (.zl (.loc 4) 30 (.cons (.call (.zu 126) (.cons (.call (.zu 180) (.cons (.loc 1) (.cons (.loc 2) (.cons (.attr (.loc 20) 18) (.cons (.attr (.loc 20) 0) .nil))))) .nil)) .nil))) .nil) .nil) J (.ok .next (oS D.w x Q.m j k mo l r (vj (zJ D.T k (ln D.T i))) f) zv)) (Ask D yx zv) (zv[f]?=JS (.list ((sF D.T k (ln D.T j)).map tC))):=by
 unfold sF;rw[e.f k];subst ho;cases ej:zJ D.T k (ln D.T i)with
 |none=>rw[ej]at hl;exact⟨J,zO (zZ (zx rfl) zQ (v8 rfl)) zj,a,hl⟩
 |some h=>
  rw[ej]at hl;obtain⟨h1,h2,h3,_⟩:=a.r.ent (a.r.tK hi hm).2 ej;obtain⟨zv,c,a2⟩:=Ma (b:=b) (d:=d+1) (k:=h.n) a.r hi hm h2;obtain hp:=Vx (b:=b) (d:=d+17) (o:=wH D.T h.n h.o (ln D.T i)) a2.r λy hy=>by
   rw[jV]at hy;obtain⟨q1,q2,q3,_⟩:=a2.r.ent (l:=uR h.o (ln D.T i)) (λz hz=>(a2.r.tK hi hm).2 z (by
    obtain this:∀{l:List Nat},z∈uR h.o l->z∈l:=λ{l}=>by induction l with|nil=>exactλh=>h|cons y l ih=>intro hz;unfold uR at hz;cases q:y==h.o with|true=>rw[q]at hz;exact .tail _ hz|false=>rw[q]at hz;exact .tail _ (ih hz)
    exact this hz)) hy;exact⟨q1,q2,q3⟩
  obtain pY:=a2.k.get hl;show∃zv:St,C3 _ _ (zv[f]?=JS (O.list [tC (JS h),tC (wH D.T h.n h.o (ln D.T j))]));rw[e.b _ _ h2];exact⟨_,ye (zZ (zx rfl) zQ (tS rfl)) (zr (yJ (yo (zx rfl) (ug hl) (zp (yC rfl (y6 (yp rfl) (zp (zx rfl) (zp (zx rfl) (zp (zM (zx rfl) h1 rfl rfl) (zp (zM (zx rfl) h1 rfl rfl) zf)))) c) hp) zf) (pH rfl pY rfl))) zj),(a.tr a2).put R0 hf pY rfl,get_set pY⟩
theorem Na{r:Nat}{os:List (Option z7)}(h:zv[r]?=JS (.list (os.map xR)))(ho:∀o∈os,∀x,o=JS x->x.o<18)(hlen:os.length<=10):∃zk,C3 (CL ⟨b,JT,JT,d+1⟩ L [13] (.list r) (os.map xR) (.call (.zu 154) (.cons (.loc 13) .nil)) .nil zv.length (os.map xR).length [] (zv++[.list []]) (os.map tC) zk) (Gr zv zk) (zk[zv.length]?=JS (.list (os.map tC))):=by obtain⟨acc,zk,k,k1,⟨k2,k3⟩,k4⟩:=CL.go (F:=⟨b,JT,JT,d+1⟩) (L:=L) (xs:=[13]) (t:=.list r) (elt:=(.call (.zu 154) (.cons (.loc 13) .nil))) (yd:=.nil) (n0:=zv.length) (l:=os.map xR) (zs:=os) (g:=λzz z=>xR z) (JN _) (λp z h=>by rewrite[JF];rw[h];rfl) (P:=λp ys acc zk=>C3 (Gr zv zk) (acc.length<=p/\acc++ys.map tC=os.map tC) (zk[zv.length]?=JS (.list acc))) (λp ys acc zk h'=>h'.1.get h) (by rintro p z ys acc zk hp hd⟨g,⟨hu,hv⟩,hc⟩;obtain yN:=(J9.mp hp).1;obtain⟨bZ,c,g'⟩:=MQ (b:=b) (d:=d) (J:=zk) (ho z (J5 hp));have wb:=g'.get hc;exact⟨_,zk,rfl,.inr ⟨bZ,_,.inl ⟨rfl,rfl⟩,yC rfl (zx yz) c,wb,xN (by lia),(g.tr g').set (JK _),⟨by rw[JO];exact Ik hu,by rw[J'];exact hv⟩,get_set wb⟩⟩) os.length 0 os [] (zv++[.list []]) rfl rfl ⟨Gr.push _,⟨JK _,rfl⟩,zA⟩;rw[HJ,IV]at k3;subst k3;exact⟨zk,by rw[JN];exact k,k1,k4⟩
theorem Nl(R:RI zv D)(hx:D.on x=JQ)(ha:yT x=none)(l1:lk 1 L=JS (.ref D.w))(l2:lk 36 L=JS (.ref (D.ad x)))(l3:lk 8 L=JS (.str k)):∃zk,C3 (CL ⟨b,JT,JT,d+22⟩ L [91] (.tup [.bool JQ,.bool JT]) [.bool JQ,.bool JT] (.call (.zu 144) (.cons (.loc 1) (.cons (.loc 36) (.cons (.loc 8) (.cons (.loc 91) .nil))))) .nil zv.length 2 [] (zv++[.list []]) [.bool (sH JQ (zJ D.T k (ln D.T (y' D.on x)))),.bool (sH JT (zJ D.T k (ln D.T (y' D.on x))))] zk) (Ask D zv zk) (zk[zv.length]?=JS (.list [.bool (sH JQ (zJ D.T k (ln D.T (y' D.on x)))),.bool (sH JT (zJ D.T k (ln D.T (y' D.on x))))])):=by
 have one:∀(ev:Bool)(acc:List V)(yU:St),Ask D zv yU->yU[zv.length]?=JS (.list acc)->acc.all iU=JQ->∃xl,C3 (E ⟨b,JT,JT,d+22⟩ (st 91 (.bool ev) L) (.call (.zu 144) (.cons (.loc 1) (.cons (.loc 36) (.cons (.loc 8) (.cons (.loc 91) .nil))))) yU (.ok (.bool (sH ev (zJ D.T k (ln D.T (y' D.on x))))) xl)) (xl[zv.length]?=JS (.list acc)) (Ask D zv (xl.set zv.length (.list (acc++[.bool (sH ev (zJ D.T k (ln D.T (y' D.on x))))])))):=λev acc yU a h hn=>by obtain⟨xl,c,a2⟩:=MD (b:=b) (d:=d) (k:=k) (ev:=ev) a.r hx ha;obtain h2:=a2.k.get h;exact⟨xl,y6 (yp rfl) (zp (zx (zg rfl l1)) (zp (zx (zg rfl l2)) (zp (zx (zg rfl l3)) (zp (zx yz) zf)))) c,h2,(a.tr a2).put R (JK _) h2 hn⟩
 obtain⟨xl,e1,h1,a1⟩:=one JQ [] _ (.of R (Gr.push _)) zA rfl;obtain⟨wI,e2,h2,a2⟩:=one JT [.bool (sH JQ (zJ D.T k (ln D.T (y' D.on x))))] _ a1 (get_set h1) rfl;exact⟨_,.take rfl rfl rfl (.inl ⟨rfl,rfl⟩) e1 h1 rfl (.take rfl rfl rfl (.inl ⟨rfl,rfl⟩) e2 h2 rfl (.stop rfl)),a2,get_set h2⟩
theorem Lz:(sF T k (ln T i)).length<=10:=by unfold sF;split;exact(by decide:1<=10);exact(by decide:2<=10)
theorem Me(R:RI J D)(Z:MI Q lim J D.T)(xC:lim+2=D.w)(hx:D.on x=JQ)(ho:yr x=JS j):∃zy,Call ⟨b,JT,JT,d+24⟩ (.fn 972) [.ref D.w,.ref (D.ad x),.ref Q.m,zU j,.str k] J (.ok (.bool JQ) zy)/\Ask D J zy:=by
 obtain⟨⟨_,hj⟩,wF,_⟩:=qZ ho;obtain ha:=kC wF;obtain⟨o1,o2⟩:=d9 R hx;obtain⟨num,main,hw,_⟩:=R.wo;obtain hle:=LE.own R.s hx ho;obtain wl:∀{zv:St},Kp J zv->lim<=zv.length:=λa=>by obtain this:=y0 hw;obtain this:=a.1;lia
 obtain⟨l,zt,c1,g1,h1⟩:=iI (b:=b) (d:=d+21) Z (wl .re) hj;obtain a1:=Ask.of R g1;obtain Z1:=Z.gr g1;obtain⟨r,zb,c2,g2,h2⟩:=MR (b:=b) (d:=d+21) (k:=k) Z1 h1 (ig Z.w hj) (by
  obtain h:=R.tK o1 o2;obtain this:(ln D.T j).length<=200:=by
   obtain r7:=kY hj;obtain this:∀(n:Nat){i:Nat},rank i=n->(ln D.T i).length<=21*(n+1):=by
    intro n;induction n with
    |zero=>
     intro i hr;obtain hp:par i=none:=by cases q:par i with|none=>rfl|some p=>obtain this:=vF q;lia
     rw[lF hp];exact cF Z.w i []
    |succ n ih=>intro i hr;cases hp:par i with|none=>obtain this:=kX hp;lia|some p=>obtain this:=ih (i:=p) (by obtain this:=vF hp;lia);obtain this:=cF Z.w i (ln D.T p);rw[nN hp];lia
   obtain this:=this _ (i:=j) rfl;lia
  lia);have a2:=a1.tr (.of a1.r g2);obtain⟨yO,c3,bQ⟩:=iK (b:=b) (d:=d+2) (k:=k) a2.r o1 o2;have a3:=a2.tr bQ;obtain cp:=Vx (b:=b) (d:=d+18) (o:=zJ D.T k (ln D.T (y' D.on x))) a3.r λy hy=>let⟨q1,q2,q3,_⟩:=a3.r.ent (a3.r.tK o1 o2).2 hy;⟨q1,q2,q3⟩;obtain x0:=uC (F:=⟨b,JT,JT,d+23⟩) (L:=aL D.w (D.ad x) Q.m j k) (xs:=[2,33]) rfl (x_ (zp (yo (zx (x:=1) rfl) (xS (x:=105) hw rfl rfl) (zp (zx (x:=36) rfl) zf) (cW (d:=d+20) R hx ha)) (zp (yY (g:=54) (x:=.loc 7) (y:=.loc 0) rfl (zx rfl) (zx rfl) c1) zf)) rfl) (L':=st 33 (.ref l) (st 2 (.ref (D.ad (y' D.on x))) (aL D.w (D.ad x) Q.m j k))) rfl;obtain x1:=uC (F:=⟨b,JT,JT,d+23⟩) (L:=st 33 (.ref l) (st 2 (.ref (D.ad (y' D.on x))) (aL D.w (D.ad x) Q.m j k))) (xs:=[56,20]) rfl (x_ (zp (xq (g:=172) (x:=.loc 7) (y:=.loc 33) (z:=.loc 8) rfl (zx rfl) (zx rfl) (zx rfl) c2) (zp (xq (g:=84) (x:=.loc 1) (y:=.loc 2) (z:=.loc 8) rfl (zx rfl) (zx rfl) (zx rfl) c3) zf)) rfl) (L':=bP D.w (D.ad x) Q.m j k (D.ad (y' D.on x)) l r (vj (zJ D.T k (ln D.T (y' D.on x))))) rfl;obtain x2:=yu (F:=⟨b,JT,JT,d+23⟩) (L:=bP D.w (D.ad x) Q.m j k (D.ad (y' D.on x)) l r (vj (zJ D.T k (ln D.T (y' D.on x))))) (x:=4) (y5 (zp (yC (g:=126) (x:=.loc 20) rfl (zx rfl) cp) zf) rfl);obtain⟨zv,x3,a4,hf⟩:=KU (b:=b) (d:=d+1) (Q:=Q) (x:=D.ad x) (l:=l) (r:=r) a3.r (.of a3.r (Gr.push _)) rfl o1 o2 hle (JK _) zA;have hr:=(bQ.k.tr a4.k).get h2;obtain Vk:=Pb (k:=k) (l:=ln D.T j) Z.w;obtain⟨xl,k4,g4,hs⟩:=Na (b:=b) (d:=d+22) (L:=oS D.w (D.ad x) Q.m j k (D.ad (y' D.on x)) l r (vj (zJ D.T k (ln D.T (y' D.on x)))) yO.length) hr (λo ho y hy=>(Vk o ho y hy).o) Lz;have lv:((sF D.T k (ln D.T j)).map tC).all (lvl 3)=JQ:=Iz.mpr λv hv=>by obtain⟨o,ho,rfl⟩:=IG.mp hv;cases o with|none=>rfl|some h=>exact Nr (Vk _ ho h rfl)
 obtain e4:=zZ (F:=⟨b,JT,JT,d+23⟩) (L:=oS D.w (D.ad x) Q.m j k (D.ad (y' D.on x)) l r (vj (zJ D.T k (ln D.T (y' D.on x)))) yO.length) (zx (x:=4) rfl) (sj (t:=.list r) rfl rfl rfl (zx (x:=56) rfl) hr k4) (mI (.inl (g4.get hf)) hs lv lv (m4 _)).2;obtain a5:=a4.tr (.of a4.r g4);obtain⟨wI,k5,a6,hh⟩:=Nl (b:=b) (d:=d+1) (k:=k) a5.r hx ha (L:=oS D.w (D.ad x) Q.m j k (D.ad (y' D.on x)) l r (vj (zJ D.T k (ln D.T (y' D.on x)))) yO.length) rfl rfl rfl;obtain x5:=Ug (F:=⟨b,JT,JT,d+23⟩) (x:=113) (t:=.tup [.bool JQ,.bool JT]) rfl rfl (x_ (zp sR (zp sR zf)) rfl) rfl λzz=>k5;have lS:=(g4.get hr|>λh=>a6.k.get h);obtain aa:=(a3.tr a5).tr a6;obtain fin:∀{L:Loc},lk 56 L=JS (.ref r)->lk 113 L=JS (.ref xl.length)->∃wR,E ⟨b,JT,JT,d+23⟩ L (.cmp .eq (.loc 113) (.lst (.cons (.cmp .yS (.sub (.loc 56) (.int 0)) .none) (.cons (.and (.cons (.cmp .yS (.sub (.loc 56) (.int 0)) .none) (.cons (.cmp .eq (.sub (.sub (.loc 56) (.int 0)) (.int 2)) (.str [112,117,98,108,105,99])) .nil))) .nil)))) wI (.ok (.bool JQ) wR)/\Gr wI wR:=λ{L}l1 l2=>by rw[<-hle.f k]at hh;obtain eY:=(Gr.push (J:=wI) (.list [.bool (sH JQ (zJ D.T k (ln D.T j))),.bool (sH JT (zJ D.T k (ln D.T j)))])).get hh;have ce:=(mI (F:=⟨b,JT,JT,d+23⟩) (.inl eY) zA rfl rfl (m4 _)).1;unfold sF at lS;cases hf:zJ D.T k (ln D.T j)with|none=>rw[hf]at lS ce;obtain e0:=yL (F:=⟨b,JT,JT,d+23⟩) (L:=L) (zx l1) yw (tA (j:=0) lS rfl (by decide));obtain e1:=zZ e0 zQ (v8 rfl);exact⟨_,zZ (zx l2) (y5 (zp e1 (zp (tR e1) zf)) rfl) ce,Gr.push _⟩|some h=>rw[hf]at lS ce;obtain⟨_,_,hm,_⟩:=pg hf;obtain ps:=((Z.w.ks _ _ hm).2).ps;obtain e0:=yL (F:=⟨b,JT,JT,d+23⟩) (L:=L) (zx l1) yw (tA (j:=0) (v:=xQ h) lS rfl (by decide));obtain e1:=zZ e0 zQ (tS rfl);exact⟨_,zZ (zx l2) (y5 (zp e1 (zp (w5 e1 (uh (zZ (yL e0 yw (vo (j:=2) rfl (by decide))) zV (u6 ps.1 rfl)))) zf)) rfl) ce,Gr.push _⟩
 obtain⟨wR,e6,g6⟩:=fin (L:=st 113 (.ref xl.length) (oS D.w (D.ad x) Q.m j k (D.ad (y' D.on x)) l r (vj (zJ D.T k (ln D.T (y' D.on x)))) yO.length)) rfl rfl;exact⟨wR,zI rfl rfl (zr x0 (zr x1 (zr x2 (zr x3 (zr (zO e4 zj) (zr x5 (zT (zL e6)))))))),aa.tr (.of aa.r g6)⟩
end
noncomputable def tM(x:Nat):List Nat:=if x=20 then[97]else if x=21 then[99]else wK x
noncomputable def vh:List Nat:=[2,4,1,5,6,8,9,20,21]
theorem OC{D:Dt}{x:Nat}(h:x∈vh\/x=7/\D.on 7=JQ):zG (tM x) (ux D)=JS (.ref (D.ad x)):=by
 unfold ux;rcases h with h|⟨rfl,h⟩;.unfold vh at h;rcases JJ.mp h with rfl|h;rfl;rcases JJ.mp h with rfl|h;rfl;rcases JJ.mp h with rfl|h;rfl;rcases JJ.mp h with rfl|h;rfl;rcases JJ.mp h with rfl|h;rfl;rcases JJ.mp h with rfl|h;rfl;rcases JJ.mp h with rfl|h;rfl;rcases JJ.mp h with rfl|h;rfl;rw[JP.mp h];rfl
 .rw[h];rfl
theorem nS{D:Dt}(s:v9 D){x:Nat}(h:x∈vh\/x=7/\D.on 7=JQ):D.on x=JQ:=by
 rcases h with h|⟨rfl,h⟩
 .by_cases q:x<10;.exact s.om x q λe=>by subst e;revert h;decide
  .obtain this:∀x∈vh,¬x<10->x=20\/x=21:=by decide
   rcases this x h q with rfl|rfl;.exact s.tm.1
   .exact s.tm.2
 .exact h
theorem Of{x j:Nat}(h:yr x=JS j):((z6 j).drop 1).dropLast=tM x:=by
 obtain hi:x<22:=I6 λq=>by rw[yr,rI q]at h;cases h
 obtain this:∀x<22,(match yr x with|JS j=>zR ((z6 j).drop 1).dropLast (tM x)|none=>JQ)=JQ:=by decide+kernel
 obtain this:=this x hi;rw[h]at this;exact xj.mp this
noncomputable def sL(l:List (List Nat)):List V:=l.map V.str
theorem Vf:∀l:List (List Nat),strsOf (sL l)=JS l|[]=>rfl|a::l=>by show(strsOf (sL l)).map (a::.)=_;rw[Vf l];rfl
noncomputable def qS(p:List Nat×z7):Bool:=p.2.b.isSome&&!zR [112,114,105,118,97,116,101] p.2.s
noncomputable def vG(ms:List (List Nat×z7)):List (List Nat):=(ms.filter qS).map (·.1)
theorem eZ:∀{ms:List (List Nat×z7)}{k:List Nat}{h:z7},(ms.map (·.1)).Nodup→(k,h)∈ms→y_ k ms=JS h
|(a,w)::r,k,h,nd,hm=>by
 obtain⟨n1,n2⟩:=Ia.mp nd;show(match zR k a with|JQ=>JS w|JT=>y_ k r)=JS h;rcases JJ.mp hm with e|hm;·cases e;rw[xj.mpr rfl]
 ·have:zR k a=JT:=by cases q:zR k a with|false=>rfl|true=>exact absurd (IG.mpr ⟨(k,h),hm,xj.mp q⟩) n1
  rw[this];exact eZ n2 hm
section
variable{b:Bc}{d lim:Nat}{q:Bool}{J yx zt zy zv:St}{T T':Tb}{Q:Mt}{i g n x j:Nat}{k:List Nat}{L:Loc}{D:Dt}
theorem se{e:M}(R:RI J D)(h:x∈vh\/x=7/\D.on 7=JQ)(l1:lk 9 L=JS (.ref D.kn))(he:E ⟨b,JT,q,d⟩ L e J (.ok (.str (tM x)) J)):E ⟨b,JT,q,d⟩ L (.sub (.loc 9) e) J (.ok (.ref (D.ad x)) J):=yL (zx l1) he (n8 (.inl R.kn) (OC h))
theorem ff{y:Nat}(hx:yr x=JS j)(l1:lk y L=JS (zU j)):E ⟨b,JT,q,d⟩ L (.wX (.loc y)) J (.ok (.str (tM x)) J):=by
 rw[<-Of hx];refine Ym (zx l1) λzz zz=>VW ?_;obtain this:∀j<18,short (z6 j)=JQ:=by decide+kernel
 exact this j (qZ hx).1.2
theorem MW(R:RI J D)(Z:MI Q lim J D.T)(xC:lim+2=D.w)(hk:x∈vh\/x=7/\D.on 7=JQ)(ho:yr x=JS j):∃zy,Call ⟨b,JT,JT,d+22⟩ (.fn 984) [.ref D.w,.ref D.kn,.ref Q.m,zU j] J (.ok (.bool JQ) zy)/\Ask D J zy:=by
 have hx:=nS R.s hk;obtain⟨⟨_,hj⟩,wF,_⟩:=qZ ho;obtain ha:=kC wF;obtain⟨num,main,hw,_⟩:=R.wo;obtain hle:=LE.own R.s hx ho;have a0:=Ask.of R (Gr.push (.list (za [5,6,8,9,4,2,1])));obtain⟨L',zy,z⟩:=FL.go (F:=⟨b,JT,JT,d+21⟩) (xs:=[5]) (t:=.list J.length) (b:=(.cons (.cond (.cmp .ne (.call (.zu 130) (.cons (.loc 1) (.cons (.sub (.loc 9) (.wX (.loc 0))) (.cons (.sub (.loc 9) (.loc 5)) .nil)))) (.cmp .yQ (.loc 5) (.call (.zu 54) (.cons (.loc 7) (.cons (.loc 0) .nil))))) (.cons (.ret (.bool JT)) .nil) .nil) .nil)) (l:=za [5,6,8,9,4,2,1]) (zs:=[5,6,8,9,4,2,1]) (g:=λzz x=>zU x) rfl (λp z h=>by unfold za;rewrite[JF];rw[h];rfl) (P:=λp ys L zv=>C5 (Ask D (J++[.list (za [5,6,8,9,4,2,1])]) zv) (lk 1 L=JS (.ref D.w)) (lk 9 L=JS (.ref D.kn)) (lk 7 L=JS (.ref Q.m)) (lk 0 L=JS (zU j))) (Q:=λzz zz=>False) (λp ys L zv h=>h.1.k.get zA) (by
  rintro p y ys L zv hp hd⟨a,l1,l2,l3,l4⟩;have hy:y∈[5,6,8,9,4,2,1]:=J5 hp;have Xe:y∈vh:=by
   have:∀y∈[5,6,8,9,4,2,1],y∈vh:=by decide
   exact this y hy
  obtain Xf:z6 y=tM y/\y<18:=by
   obtain h1:∀y∈[5,6,8,9,4,2,1],y<18:=by decide
   obtain h2:∀y∈[5,6,8,9,4,2,1],zR (z6 y) (tM y)=JQ:=by decide+kernel
   exact⟨xj.mp (h2 y hy),h1 y hy⟩
  have Xd:=nS R.s (.inl Xe);obtain⟨yU,c1,a1⟩:=MY (b:=b) (d:=d) a.r hx ha Xd;obtain aa:=a.tr a1;obtain⟨l,xl,c2,g2,hl⟩:=iI (b:=b) (d:=d+19) (Z.ask (a0.k.tr aa.k)) (by obtain this:=y0 hw;obtain this:=(a0.k.tr aa.k).1;lia) hj;obtain e2:=zZ (F:=⟨b,JT,JT,d+21⟩) (L:=st 5 (zU y) L) (zx (x:=5) yz) (yY (g:=54) (x:=.loc 7) (y:=.loc 0) rfl (zx (zg rfl l3)) (zx (zg rfl l4)) c2) (mG (k:=z6 y) hl (kT _)).1;rw[mP Xf.2 (ig Z.w hj),hle.c y Xd]at e2;obtain e1:=xq (F:=⟨b,JT,JT,d+21⟩) (L:=st 5 (zU y) L) (g:=130) (x:=.loc 1) rfl (zx (zg rfl l1)) (se (q:=JT) a.r hk (zg rfl l2) (ff (y:=0) ho (zg rfl l4))) (se (q:=JT) (e:=.loc 5) a.r (.inl Xe) (zg rfl l2) (by rw[<-Xf.1];exact zx yz)) c1;exact⟨_,_,xl,rfl,.inl ⟨zr (zO (zZ e1 e2 (gR rfl rfl (Ye _))) zj) zj,aa.tr (.of aa.r g2),zg rfl l1,zg rfl l2,zg rfl l3,zg rfl l4⟩⟩) 7 0 _ [(1,.ref D.w),(9,.ref D.kn),(7,.ref Q.m),(0,zU j)] (J++[.list (za [5,6,8,9,4,2,1])]) rfl rfl ⟨⟨a0.r,.re⟩,rfl,rfl,rfl,rfl⟩;rcases z with⟨c,a,_⟩|⟨_,_,f⟩;.exact⟨zy,zI rfl rfl (zr (xe (t:=.list J.length) rfl (y5 (zp zV (zp zV (zp zV (zp zV (zp zV (zp zV (zp zV zf))))))) rfl) zA rfl c) (zT (zL sR))),a0.tr a⟩
 .exact f.elim
theorem MS{n:Nat}{ms:List (List Nat×z7)}(h:J[n]?=JS (.dict (yF xQ ms)))(nd:(ms.map (·.1)).Nodup)(hl:ms.length≤10)(hs:∀p∈ms,wQ p.2):X2 fun r zy=>C3 (Call ⟨b,JT,JT,d+1⟩ (.fn 977) [.ref n] J (.ok (.ref r) zy)) (Gr J zy) (zy[r]?=JS (.list (sL (vG ms)))):=by
 obtain⟨acc,zy,k,k1,⟨k2,k3⟩,k4⟩:=CL.go (F:=⟨b,JT,JT,d⟩) (L:=[(19,.ref n)]) (xs:=[8]) (t:=.dict n) (elt:=(.loc 8)) (yd:=(.cons (.and (.cons (.cmp .yS (.sub (.sub (.loc 19) (.loc 8)) (.int 0)) .none) (.cons (.cmp .ne (.sub (.sub (.loc 19) (.loc 8)) (.int 2)) (.str [112,114,105,118,97,116,101])) .nil))) .nil)) (n0:=J.length) (l:=(yF xQ ms).map fun p=>V.str p.1) (zs:=ms) (g:=fun zz z=>.str z.1) (by rewrite[JN];rewrite[yF];rw[JN]) (fun p z h=>by rewrite[yF];rewrite[HT];rewrite[JF];rw[h];rfl) (P:=fun p ys acc zv=>C3 (Gr J zv) (acc.length≤p∧acc++sL (vG ys)=sL (vG ms)) (zv[J.length]?=JS (.list acc))) (fun p ys acc zv h'=>⟨_,h'.1.get h,rfl⟩) (by
  rintro p⟨k,hit⟩ys acc zv hp hd⟨g,⟨hu,hv⟩,hc⟩;obtain hm:=J5 hp;obtain yN:=(J9.mp hp).1;have e0:E ⟨b,JT,JQ,d⟩ (st 8 (.str k) [(19,.ref n)]) (.sub (.loc 19) (.loc 8)) zv (.ok (xQ hit) zv):=yL (zx rfl) (zx rfl) (n8 (.inl (g.get h)) (by rewrite[qv];rw[eZ nd hm];rfl));obtain e1:=zZ (yL e0 yw (vo (j:=0) (v:=match hit.b with|JS t=>.str t|none=>.none) rfl (by decide))) zQ (ri (t:=hit.b.isNone) (by cases hit.b<;>rfl));obtain ec:=oH e1 fun zz=>zZ (yL e0 yw (vo (j:=2) rfl (by decide))) (zV (t:=[112,114,105,118,97,116,101])) (qF (hs _ hm).ps.1 rfl);obtain e2:(!hit.b.isNone&&!zR [112,114,105,118,97,116,101] hit.s)=qS (k,hit):=by unfold qS;cases hit.b<;>rfl
  rw[e2]at ec;obtain hn:vG ((k,hit)::ys)=if qS (k,hit)then k::vG ys else vG ys:=by unfold vG;rw[Ib];split<;>rfl
  rw[hn]at hv;cases hq:qS (k,hit)with|false=>rw[hq]at ec hv;exact⟨_,zv,rfl,.inl ⟨_,rfl,ec,g,⟨Hb hu,hv⟩,hc⟩⟩|true=>rw[hq]at ec hv;exact⟨_,zv,rfl,.inr ⟨zv,_,.inr ⟨_,rfl,ec⟩,zx rfl,hc,xN (by lia),g.set (JK _),⟨by rw[JO];exact Ik hu,by rw[J'];exact hv⟩,get_set hc⟩⟩) ms.length 0 ms [] (J++[.list []]) rfl rfl ⟨Gr.push _,⟨JK _,rfl⟩,zA⟩;obtain k3:acc++[]=_:=k3;rw[IV]at k3;subst k3;exact⟨_,zy,zI rfl rfl (zT (zL (sj (t:=.dict n) rfl rfl rfl (zx rfl) ⟨_,h,rfl⟩ (by rewrite[JN];rewrite[yF];rw[JN];exact k)))),k1,k4⟩
end
theorem Vg{l m:List (List Nat)}:sL (l++m)=sL l++sL m:=I0
theorem Ve{l:List (List Nat)}(h:l.length<=1000):short (sL l)=JQ:=xN (by unfold sL;rw[JN];exact h)
noncomputable def i4(h:z7):List Nat:=if h.b.isSome then[114,101,97,100,101,114]else[110,111,110,101]
theorem cG(D:Dt)(h:z7):C3 (lk 35 (D.wm h)=JS (.str (i4 h))) (plainS (i4 h)=JQ) ((!zR [110,111,110,101] (i4 h))=h.b.isSome):=by unfold Dt.wm i4;cases h.b<;>exact⟨rfl,rfl,rfl⟩
noncomputable def uJ(ms:List (List Nat×z7)):List (List Nat):=ms.map (·.1)
section
variable{b:Bc}{d lim:Nat}{q:Bool}{J yx zt zy zv:St}{T T':Tb}{Q:Mt}{i g n x j:Nat}{k:List Nat}{L:Loc}{D:Dt}
theorem MH(R:RI J D)(hi:D.on i=JQ)(hm:i<18)(tj:yG i=.none):X2 λr zy=>C4 (Call ⟨b,JT,JT,d+1⟩ (.fn 577) [.ref D.w,.ref (D.ad i)] J (.ok (.ref r) zy)) (Gr J zy) (zy[r]?=JS (.list (sL (uJ (D.T i).ms)))) (J.length<=r):=by obtain⟨kp,a1,a3,h1,_⟩:=R.oo i hi hm;have hd:=R.mm i hi hm;obtain hl:=R.s.wf.uH i;obtain⟨acc,zy,k,k1,⟨k2,k3⟩,k4⟩:=CL.go (F:=⟨b,JT,JT,d⟩) (L:=[(1,.ref D.w),(2,.ref (D.ad i))]) (xs:=[0,20]) (t:=.items (D.da i)) (elt:=(.loc 0)) (yd:=(.cons (.not (.call (.zu 23) (.cons (.loc 20) (.cons (.zu 108) .nil)))) .nil)) (n0:=J.length) (l:=(yF tn (D.T i).ms).map λp=>V.tup [.str p.1,p.2]) (zs:=(D.T i).ms) (g:=λzz z=>.tup [.str z.1,tn z.2]) (by rewrite[JN];rewrite[yF];rw[JN]) (λp z h=>by rewrite[yF];rewrite[HT];rewrite[JF];rw[h];rfl) (P:=λp ys acc zv=>C3 (Gr J zv) (acc.length<=p/\acc++sL (uJ ys)=sL (uJ (D.T i).ms)) (zv[J.length]?=JS (.list acc))) (λp ys acc zv h'=>⟨_,h'.1.get hd,rfl⟩) (by rintro p⟨k,hit⟩ys acc zv hp Y4⟨g,⟨hu,hv⟩,hc⟩;obtain lW:=J5 hp;obtain yN:=(J9.mp hp).1;obtain he:=g.get (R.ee i hi hm _ lW).1;obtain ec:E ⟨b,JT,JQ,d⟩ (st 20 (tn hit) (st 0 (.str k) [(1,.ref D.w),(2,.ref (D.ad i))])) (.not (.call (.zu 23) (.cons (.loc 20) (.cons (.zu 108) .nil)))) zv (.ok (.bool (!JT)) zv):=vM (yY (g:=23) rfl (zx rfl) (yp (x:=108) rfl) (tf he ⟨_,rfl⟩ rfl rfl));exact⟨_,zv,rfl,.inr ⟨zv,_,.inr ⟨_,rfl,ec⟩,zx rfl,hc,xN (by lia),g.set (JK _),⟨by rw[JO];exact Ik hu,by rw[J'];exact hv⟩,get_set hc⟩⟩) (D.T i).ms.length 0 _ [] (J++[.list []]) rfl rfl ⟨Gr.push _,⟨JK _,rfl⟩,zA⟩;have k3:acc++[]=_:=k3;rw[IV]at k3;subst k3;refine⟨_,zy,zI rfl rfl (zr (Ug (t:=.items (D.da i)) rfl rfl (zM (zx rfl) h1 rfl rfl) ⟨_,hd,rfl⟩ λzz=>by rewrite[JN];rewrite[yF];rw[JN];exact k) (zr (zO (zZ (zM (zx rfl) (k1.get h1) rfl (show _=JS (yG i)from rfl)) zQ (v8 (by rw[tj];rfl))) zj) (zT (zL (zx rfl))))),k1,k4,JK _⟩
noncomputable def NP(w i f en:Nat)(L:Loc):Prop:=C4 (lk 1 L=JS (.ref w)) (lk 5 L=JS (.ref i)) (lk 4 L=JS (.ref f)) (lk 79 L=JS (.ref en))
theorem NP.st{w f en y:Nat}{v:V}(h:NP w i f en L)(h1:JG 1 y=JT)(h2:JG 5 y=JT)(h3:JG 4 y=JT)(h4:JG 79 y=JT):NP w i f en (st y v L):=⟨zg h1 h.1,zg h2 h.2,zg h3 h.3,zg h4 h.4⟩
theorem NQ{f en l:Nat}(R:RI J D)(hi:D.on i=JQ)(hm:i<18)(hf:J.length≤f)(he:J.length≤en)(Wb:f≠en)(NI:f≠l)(NL:en≠l)(QT:Gr J zv)(h1:zv[f]?=JS (.list []))(h2:zv[en]?=JS (.list []))(h3:zv[l]?=JS (.list (sL (uJ (D.T i).ms))))(hN:NP D.w (D.ad i) f en L):X2 fun L' zk=>C5 (FL ⟨b,JT,JT,d+2⟩ [0] (.list l) (sL (uJ (D.T i).ms)) (.cons (.asg 20 (.call (.zu 67) (.cons (.loc 1) (.cons (.loc 5) (.cons (.loc 0) .nil))))) (.cons (.cond (.and (.cons (.cmp .yS (.loc 20) .none) (.cons (.cmp .y9 (.loc 0) (.loc 79)) .nil))) (.cons (.expr (.zl (.loc 79) 30 (.cons (.loc 0) .nil))) (.cons (.cond (.and (.cons (.cmp .ne (.attr (.loc 20) 35) (.str [110,111,110,101])) (.cons (.cmp .ne (.attr (.loc 20) 14) (.str [112,114,105,118,97,116,101])) .nil))) (.cons (.expr (.zl (.loc 4) 30 (.cons (.loc 0) .nil))) .nil) .nil) .nil)) .nil) .nil)) (sL (uJ (D.T i).ms)).length L zv (.ok .next L' zk)) (Gr J zk) (zk[f]?=JS (.list (sL (vG (D.T i).ms)))) (NP D.w (D.ad i) f en L') (∀r o,zv[r]?=JS o→r≠f→r≠en→zk[r]?=JS o):=by
 obtain wl:=R.s.wf.uH i;obtain⟨L',zk,k,k1,⟨dn,fs,b1,b2,b3,b4,b5⟩,k3,k4,k5⟩:=FL.all (F:=⟨b,JT,JT,d+2⟩) (xs:=[0]) (t:=.list l) (b:=(.cons (.asg 20 (.call (.zu 67) (.cons (.loc 1) (.cons (.loc 5) (.cons (.loc 0) .nil))))) (.cons (.cond (.and (.cons (.cmp .yS (.loc 20) .none) (.cons (.cmp .y9 (.loc 0) (.loc 79)) .nil))) (.cons (.expr (.zl (.loc 79) 30 (.cons (.loc 0) .nil))) (.cons (.cond (.and (.cons (.cmp .ne (.attr (.loc 20) 35) (.str [110,111,110,101])) (.cons (.cmp .ne (.attr (.loc 20) 14) (.str [112,114,105,118,97,116,101])) .nil))) (.cons (.expr (.zl (.loc 4) 30 (.cons (.loc 0) .nil))) .nil) .nil) .nil)) .nil) .nil))) (l:=sL (uJ (D.T i).ms)) (zs:=(D.T i).ms) (g:=fun zz z=>.str z.1) (by unfold sL uJ;rewrite[JN];rw[JN]) (fun p z h=>by unfold sL uJ;rewrite[HT];rewrite[JF];rw[h];rfl) (P:=fun p ys L zk=>C5 (Gr J zk) (X2 fun dn fs=>C5 (zk[en]?=JS (.list (sL dn))) (zk[f]?=JS (.list (sL fs))) (dn.length≤p∧fs.length≤p) (dn++uJ ys=uJ (D.T i).ms) (fs++vG ys=vG (D.T i).ms)) (zk[l]?=JS (.list (sL (uJ (D.T i).ms)))) (NP D.w (D.ad i) f en L) (∀r o,zv[r]?=JS o→r≠f→r≠en→zk[r]?=JS o)) (fun p ys L zk h=>h.3) (by
  rintro p⟨k,hit⟩ys L zk hp hd⟨g,⟨dn,fs,b1,b2,b3,b4,b5⟩,k3,k4,k5⟩;obtain lW:=J5 hp;obtain yN:=(J9.mp hp).1;obtain hh:=eZ (R.s.wf.nd i) lW;obtain⟨yU,c,g1⟩:=iM (b:=b) (d:=d) (k:=k) (R.gr g) hi hm;rw[hh]at c;have jL:yU[hit.e]?=JS (.inst 256 (D.wm hit)):=g1.get (g.get (R.ee i hi hm _ lW).1);obtain b1:=g1.get b1;obtain b2:=g1.get b2;obtain k3:=g1.get k3;obtain np:=(k4.st (y:=0) (v:=.str k) rfl rfl rfl rfl).st (y:=20) (v:=.ref hit.e) rfl rfl rfl rfl;obtain x0:=yu (F:=⟨b,JT,JT,d+2⟩) (L:=st 0 (.str k) L) (x:=20) (xq (g:=67) (x:=.loc 1) (y:=.loc 5) (z:=.loc 0) rfl (zx (zg rfl k4.1)) (zx (zg rfl k4.2)) (zx yz) c);have eP:dn.any (zR k)=JT:=by cases q:dn.any (zR k)with|false=>rfl|true=>obtain⟨a,ha,e⟩:=El.mp q;have nd:=R.s.wf.nd i;rw[show(D.T i).ms.map (·.1)=uJ (D.T i).ms from rfl,←b4]at nd;exact absurd (IG.mpr ⟨(k,hit),.head _,rfl⟩) (fun h=>(List.nodup_append.mp nd).2.2 a ha k h (xj.mp e).symm)
  obtain e1:=zZ (F:=⟨b,JT,JT,d+2⟩) (zx (yz (x:=20) (v:=.ref hit.e) (L:=st 0 (.str k) L))) (zQ (J:=yU)) (tS rfl);obtain e2:=zZ (F:=⟨b,JT,JT,d+2⟩) (L:=st 20 (.ref hit.e) (st 0 (.str k) L)) (zx (x:=0) (zg rfl yz)) (zx np.4) (mG (k:=k) b1 (Vf dn)).2;rw[eP]at e2;obtain ap:=pI (F:=⟨b,JT,JT,d+2⟩) (v:=.str k) rfl b1 (Ve (by lia)) (Vg (m:=[k])).symm;obtain b9:(yU.set en (.list (sL (dn++[k]))))[en]?=_:=get_set b1;obtain kB:(yU.set en (.list (sL (dn++[k]))))[f]?=_:=zK b2 (Hk Wb);have Y0:(yU.set en (.list (sL (dn++[k]))))[hit.e]?=_:=zK jL fun e=>by rw[e,jL]at b1;cases b1
  obtain XQ:(yU.set en (.list (sL (dn++[k]))))[l]?=_:=zK k3 NL;obtain gg:Gr J (yU.set en (.list (sL (dn++[k])))):=(g.tr g1).set he;have kk:∀r o,zv[r]?=JS o→r≠f→r≠en→(yU.set en (.list (sL (dn++[k]))))[r]?=JS o:=fun r o h n1 n2=>zK (g1.get (k5 r o h n1 n2)) (Hk n2);generalize yU.set en (.list (sL (dn++[k])))=xl at*;obtain ws:wQ hit:=(R.s.wf.ks i _ lW).2;obtain es:=zZ (F:=⟨b,JT,JT,d+2⟩) (zM (zx (yz (x:=20) (v:=.ref hit.e) (L:=st 0 (.str k) L))) Y0 (x:=35) rfl (cG D hit).1) (zV (t:=[110,111,110,101])) (qF (cG D hit).2 rfl);obtain ec:=oH es fun zz=>zZ (zM (zx yz) Y0 (x:=14) rfl rfl) (zV (t:=[112,114,105,118,97,116,101])) (qF ws.ps.1 rfl);obtain e3:(hit.b.isSome&&!zR [112,114,105,118,97,116,101] hit.s)=qS (k,hit):=rfl;rw[(cG D hit).3,e3]at ec;obtain hn:vG ((k,hit)::ys)=if qS (k,hit)then k::vG ys else vG ys:=by unfold vG;rw[Ib];split<;>rfl
  rw[hn]at b5;cases hq:qS (k,hit)with|false=>rw[hq]at ec b5;exact⟨_,_,xl,rfl,zr x0 (zr (ye (w5 e1 (uh e2)) (zr (yJ (yo (zx np.4) (ug b1) (zp (zx (zg rfl yz)) zf) ap)) (zr (zO ec zj) zj))) zj),gg,⟨dn++[k],fs,b9,kB,⟨by rw[JO];exact Ik b3.1,Hb b3.2⟩,by rw[J'];exact b4,b5⟩,XQ,np,kk⟩|true=>rw[hq]at ec b5;obtain U1:=pI (F:=⟨b,JT,JT,d+2⟩) (v:=.str k) rfl kB (Ve (by lia)) (Vg (m:=[k])).symm;exact⟨_,_,xl.set f (.list (sL (fs++[k]))),rfl,zr x0 (zr (ye (w5 e1 (uh e2)) (zr (yJ (yo (zx np.4) (ug b1) (zp (zx (zg rfl yz)) zf) ap)) (zr (ye ec (zr (yJ (yo (zx np.3) (ug kB) (zp (zx (zg rfl yz)) zf) U1)) zj)) zj))) zj),gg.set hf,⟨dn++[k],fs++[k],zK b9 Wb,get_set kB,⟨by rw[JO];exact Ik b3.1,by rw[JO];exact Ik b3.2⟩,by rw[J'];exact b4,by rw[J'];exact b5⟩,zK XQ NI,np,fun r o h n1 n2=>zK (kk r o h n1 n2) (Hk n1)⟩) (L:=L) (J:=zv) ⟨QT,⟨[],[],h2,h1,⟨JK _,JK _⟩,rfl,rfl⟩,h3,hN,fun r o h zz zz=>h⟩;have b8:fs++[]=_:=b5;rw[IV]at b8;subst b8;exact⟨L',zk,k,k1,b2,k4,k5⟩
theorem ML(R:RI J D)(hi:D.on i=JQ)(hm:i<18)(tj:yG i=.none):X2 λr zy=>C3 (Call ⟨b,JT,JT,d+3⟩ (.fn 584) [.ref D.w,.ref (D.ad i),.bool JT] J (.ok (.ref r) zy)) (Gr J zy) (zy[r]?=JS (.list (sL (vG (D.T i).ms)))):=by
 obtain g3:Gr J (((J++[O.list []])++[O.list []])++[O.list [.ref (D.ad i)]]):=((Gr.push _).tr (Gr.push _)).tr (Gr.push _);obtain f1:(((J++[O.list []])++[O.list []])++[O.list [.ref (D.ad i)]])[J.length]?=JS (.list []):=(Gr.push _).get ((Gr.push _).get zA);obtain f2:(((J++[O.list []])++[O.list []])++[O.list [.ref (D.ad i)]])[(J++[O.list []]).length]?=JS (.list []):=(Gr.push _).get zA;obtain f3:(((J++[O.list []])++[O.list []])++[O.list [.ref (D.ad i)]])[((J++[O.list []])++[O.list []]).length]?=JS (.list [.ref (D.ad i)]):=zA;obtain⟨l,zv,c,g,hl,hle⟩:=MH (b:=b) (d:=d+1) (R.gr g3) hi hm tj;obtain len:(((J++[O.list []])++[O.list []])++[O.list [.ref (D.ad i)]]).length=J.length+3:=by simp only[JO,Il]
 have uI:(J++[O.list []]).length=J.length+1:=by simp only[JO,Il]
 obtain uH:((J++[O.list []])++[O.list []]).length=J.length+2:=by simp only[JO,Il]
 obtain⟨L',zk,k,g',hr,np,kk⟩:=NQ (b:=b) (d:=d) (f:=J.length) (en:=(J++[O.list []]).length) (l:=l) (L:=st 5 (.ref (D.ad i)) [(1,.ref D.w),(2,.ref (D.ad i)),(86,.bool JT),(4,.ref J.length),(79,.ref (J++[O.list []]).length)]) R hi hm (JK _) (by lia) (by lia) (by lia) (by lia) (g3.tr g) (g.get f1) (g.get f2) hl ⟨rfl,rfl,rfl,rfl⟩;obtain h3:=kk _ _ (g.get f3) (by lia) (by lia);exact⟨_,zk,zI rfl rfl (zr (uC rfl (x_ (zp (y5 zf rfl) (zp (y5 zf rfl) zf)) rfl) rfl) (zr (xe (t:=.list ((J++[O.list []])++[O.list []]).length) rfl (wt (zx rfl) (y5 (zp (zx rfl) zf) rfl)) f3 rfl (.turn f3 rfl rfl (zr (xe (t:=.list l) rfl (yY rfl (zx rfl) (zx rfl) c) hl rfl k) zj) (.stop h3))) (zT (zL (zx np.3))))),g',hr⟩
end
noncomputable def Out(D:Dt)(T':Tb)(J zy:St):Prop:=∃D',C6 (RI zy D') (D'.w=D.w) (D'.kn=D.kn) (D'.T=T') (D'.on 7=D.on 7) (Lo D J zy)
noncomputable def uT(b:Bc)(d a:Nat)(args:List V)(J:St)(D:Dt)(res:List Nat×Tb):Prop:=∃zy,Out D res.2 J zy/\((res.1=[]/\Call ⟨b,JT,JT,d⟩ (.fn a) args J (.ok .none zy))\/∃n,Call ⟨b,JT,JT,d⟩ (.fn a) args J (.exc (.ref n) zy)/\gj zy n res.1)
section
variable{b:Bc}{d lim:Nat}{q:Bool}{J yx zt zy zv:St}{T T':Tb}{Q:Mt}{i g n x j way num:Nat}{k k' s:List Nat}{L:Loc}{D:Dt}
theorem Good.out(h:Good D T' J zy):Out D T' J zy:=⟨D.up T',h.r,rfl,rfl,rfl,rfl,h.lo⟩
theorem Ask.out(h:Ask D J zy):Out D D.T J zy:=⟨D,h.r,rfl,rfl,rfl,rfl,h.k.lo⟩
theorem vC.out(h:vC D s J n zy):Out D D.T J zy:=⟨D,h.r,rfl,rfl,rfl,rfl,h.lo⟩
theorem Out.pre{r8:Dt}(e:Ex D r8)(l:Lo D J zt)(o:Out r8 T' zt zy):Out D T' J zy:=let⟨D',r,h1,h2,h3,h4,h5⟩:=o;⟨D',r,h1.trans e.w,h2.trans e.kn,h3,h4.trans e.o7,l.tr h5 e.w⟩
theorem gS{c:Bool}(R:RI J D)(hi:D.on i=JQ)(ht:i∈targets)(hg:g=8\/g=9\/g=5):uT b (d+13) (if c then 558 else 551) [.ref D.w,.ref (D.ad i),.ref (D.ad g)] J D (x9 D.T i g,uF D.T i g c):=by
 obtain go:∀{x a:Nat}{fd:FD},(∀{a1 a3:Nat}{kp:V},lk x (D.w_ i a1 a3 kp)=JS (.ref (D.la c i)))->xi 228 x=JQ->prog.fn a=JS fd->fd.body=dN x->uo fd.params fd.dflt [.ref D.w,.ref (D.ad i),.ref (D.ad g)]=JS [(1,.ref D.w),(2,.ref (D.ad i)),(27,.ref (D.ad g))]->uT b (d+13) a [.ref D.w,.ref (D.ad i),.ref (D.ad g)] J D (x9 D.T i g,uF D.T i g c):=λ{x a fd}hx hk hf hb hp=>by
  obtain⟨n1,n2⟩:=KS (b:=b) (d:=d) (J:=J) hx hk R hi ht hg;cases hm:x9 D.T i g with
  |cons u v=>
   obtain⟨n,zy,xb,f⟩:=n1 (by rw[hm];exact nofun);obtain e:uF D.T i g c=D.T:=by unfold uF;rw[hm]
   rw[hm]at f;exact⟨zy,by rw[e];exact f.out,.inr ⟨n,tu hf hp (by rw[hb];exact xb),f.e⟩⟩
  |nil=>obtain⟨zy,xb,f⟩:=n2 hm;refine⟨zy,?_,.inl ⟨rfl,vK hf hp (by rw[hb];exact xb)⟩⟩;show Out D (uF D.T i g c) J zy;unfold uF;rw[hm];cases hq:((D.T i).li c).contains g with|true=>rw[hq]at f;exact Ask.out f|false=>rw[hq]at f;exact Good.out f
 cases c with|true=>exact go (x:=94) rfl rfl rfl rfl rfl|false=>exact go (x:=80) rfl rfl rfl rfl rfl
theorem S5(R:RI J D)(hi:D.on i=JQ)(hm:i<18)(hk:k∈yH)(tj:yG i=.none)(e:Nat):uT b (d+13) 516 [.ref D.w,.ref (D.ad i),.str k] J D (vN D.T 6 i g k k' s num e):=by obtain h:=ME (b:=b) (d:=d) R hi hm (o9 R.s hi hm) hk tj;show uT b _ _ _ _ _ (match(y_ k (D.T i).ms).bind live with|JS _=>([],w9 D.T i (ra k (D.T i).ms))|none=>([78,97,109,101,69,114,114,111,114],D.T));cases hq:(y_ k (D.T i).ms).bind live with|some x=>rw[hq]at h;obtain⟨zy,c,f⟩:=h;exact⟨zy,f.out,.inl ⟨rfl,c⟩⟩|none=>rw[hq]at h;obtain⟨n,zy,c,f⟩:=h;exact⟨zy,f.out,.inr ⟨n,c,f.e⟩⟩
theorem Rz(R:RI J D)(hi:D.on i=JQ)(hm:i<18)(hk:k∈yH):∃e,uT b (d+23) 509 [.ref D.w,.ref (D.ad i),.str k] J D (vN D.T 7 i g k k' s num e):=by obtain h:=M7 (b:=b) (d:=d) R hi hm (o9 R.s hi hm) hk;show∃e,uT b _ _ _ _ _ (match vV D.T i k with|none=>([78,97,109,101,69,114,114,111,114],D.T)|JS h=>([],oQ D.T 7 i k k' s e h));cases hq:vV D.T i k with|some x=>rw[hq]at h;obtain⟨e,zy,c,f⟩:=h;exact⟨e,zy,f.out,.inl ⟨rfl,c⟩⟩|none=>rw[hq]at h;obtain⟨n,zy,c,f⟩:=h;exact⟨0,zy,f.out,.inr ⟨n,c,f.e⟩⟩
theorem SJ(R:RI J D)(hi:D.on i=JQ)(hm:i<18)(hk:k∈yH)(wh:k'∈yH):∃e,uT b (d+23) 530 [.ref D.w,.ref (D.ad i),.str k',.str k] J D (vN D.T 8 i g k k' s num e):=by obtain h:=Mf (b:=b) (d:=d) R hi hm (o9 R.s hi hm) hk wh;show∃e,uT b _ _ _ _ _ (match vV D.T i k with|none=>([78,97,109,101,69,114,114,111,114],D.T)|JS h=>([],oQ D.T 8 i k k' s e h));cases hq:vV D.T i k with|some x=>rw[hq]at h;obtain⟨e,zy,c,f⟩:=h;exact⟨e,zy,f.out,.inl ⟨rfl,c⟩⟩|none=>rw[hq]at h;obtain⟨n,zy,c,f⟩:=h;exact⟨0,zy,f.out,.inr ⟨n,c,f.e⟩⟩
theorem S1{l:Nat}(R:RI J D)(hi:D.on i=JQ)(hm:i<18)(hk:k∈yH)(hs:s∈vd)(hl:J[l]?=JS (.list [.str k])):∃e,uT b (d+23) 537 [.ref D.w,.ref (D.ad i),.ref l,.str s] J D (vN D.T 9 i g k k' s num e):=by
 obtain h:=MB (b:=b) (d:=d) R hi hm (o9 R.s hi hm) hk hs hl;show∃e,uT b _ _ _ _ _ (match vV D.T i k with|none=>([78,97,109,101,69,114,114,111,114],D.T)|JS h=>([],oQ D.T 9 i k k' s e h));cases hq:vV D.T i k with
 |some x=>rw[hq]at h;show∃e,uT b _ _ _ _ _ ([],if(!zR s x.s||(y_ k (D.T i).ms).isNone)=JQ then _ else D.T);cases hc:(!zR s x.s||(y_ k (D.T i).ms).isNone)with|true=>simp only[hc]at h;obtain⟨e,zy,c,f⟩:=h;exact⟨e,zy,f.out,.inl ⟨rfl,c⟩⟩|false=>simp only[hc]at h;obtain⟨zy,c,f⟩:=h;exact⟨0,zy,f.out,.inl ⟨rfl,c⟩⟩
 |none=>rw[hq]at h;obtain⟨n,zy,c,f⟩:=h;exact⟨0,zy,f.out,.inr ⟨n,c,f.e⟩⟩
noncomputable def Fin(b:Bc)(d:Nat)(L:Loc)(B:S)(J:St)(D:Dt)(res:List Nat×Tb):Prop:=X2 λzy L'=>Out D res.2 J zy/\((res.1=[]/\(XB ⟨b,JT,JT,d⟩ L B J (.ok .next L' zy)\/XB ⟨b,JT,JT,d⟩ L B J (.ok (.ret (.str [])) L' zy)))\/∃n,XB ⟨b,JT,JT,d⟩ L B J (.exc (.ref n) L' zy)/\gj zy n res.1)
theorem Fin.call{f a:Nat}{args:M}{vs:List V}{res:List Nat×Tb}(hf:prog.glob f=JS (.fn a))(hk:sN (.fn a)=JQ)(hs:Es ⟨b,JT,JT,d⟩ L args J vs zt)(g:Ask D J zt)(h:uT b d a vs zt D res):Fin b d L (.cons (.expr (.call (.zu f) args)) .nil) J D res:=by
 obtain⟨zy,o,h⟩:=h;refine⟨zy,L,o.pre .re g.k.lo,?_⟩;rcases h with⟨e,c⟩|⟨n,c,x⟩;.exact .inl ⟨e,.inl (zr (yJ (y6 (yp hf) hs c hk)) zj)⟩
 .exact .inr ⟨n,vn (rD (y6 (yp hf) hs c hk)),x⟩
theorem Fin.cond{c:M}{A B:S}{t:Bool}{res:List Nat×Tb}(hc:E ⟨b,JT,JT,d⟩ L c J (.ok (.bool t) J))(h:Fin b d L (if t then A else B) J D res):Fin b d L (.cons (.cond c A B) .nil) J D res:=by
 obtain⟨zy,L',o,h⟩:=h;refine⟨zy,L',o,?_⟩;rcases h with⟨e,h|h⟩|⟨n,h,x⟩;.exact .inl ⟨e,.inl (zr (oq hc h) zj)⟩
 .exact .inl ⟨e,.inr (zT (oq hc h))⟩
 .exact .inr ⟨n,vn (oq hc h),x⟩
theorem Fin.cons{S0 B:S}{zN:Loc}{r8:Dt}{res:List Nat×Tb}(x:X1 ⟨b,JT,JT,d⟩ L S0 J (.ok .next zN zt))(e:Ex D r8)(l:Lo D J zt)(h:Fin b d zN B zt r8 res):Fin b d L (.cons S0 B) J D res:=by
 obtain⟨zy,L',o,h⟩:=h;refine⟨zy,L',o.pre e l,?_⟩;rcases h with⟨e,h|h⟩|⟨n,h,z⟩;.exact .inl ⟨e,.inl (zr x h)⟩
 .exact .inl ⟨e,.inr (zr x h)⟩
 .exact .inr ⟨n,zr x h,z⟩
end
structure QL(w kn way i g:Nat)(k k' s:List Nat)(num:Nat)(L:Loc):Prop where
 w:lk 1 L=some (.ref w)
 kn:lk 9 L=some (.ref kn)
 way:lk 16 L=some (.int way)
 name:lk 0 L=some (zU i)
 g:lk 10 L=some (zU g)
 k:lk 8 L=some (.str k)
 k':lk 26 L=some (.str k')
 s:lk 14 L=some (.str s)
 num:lk 17 L=some (.int num)
theorem VC{i:Nat}(h:i∈targets):C3 (i<18) (yG i=.none) (X2 λc r=>C3 (z6 i=c::r) (plainS [c]=JQ) (zR [60] [c]=Ho 10 i)):=by
 obtain h1:∀i∈targets,(Io i 18&&(JG (yG i).ctorIdx 0&&(match z6 i with|c::r=>plainS [c]&&(zR [60] [c]==Ho 10 i)|[]=>JT)))=JQ:=by decide+kernel
 obtain⟨a,a2⟩:=zh (h1 i h);obtain⟨a2,a3⟩:=zh a2;refine⟨JA a,?_,?_⟩
 .revert a2;unfold yG;split;.exactλh=>nomatch h
  .exactλzz=>rfl
 .cases hm:z6 i with|nil=>rw[hm]at a3;cases a3|cons c r=>rw[hm]at a3;obtain⟨p1,p2⟩:=zh a3;exact⟨c,r,rfl,p1,eq_of_beq p2⟩
section
variable{b:Bc}{d lim:Nat}{q:Bool}{J yx zt zy zv:St}{T T':Tb}{Q:Mt}{i g n x j way num:Nat}{k k' s:List Nat}{L:Loc}{D:Dt}
theorem jO(hg:g=8\/g=9\/g=5):g∈vh/\zU g=.str (tM g):=by rcases hg with rfl|rfl|rfl<;>exact⟨by decide,rfl⟩
theorem YU(R:RI J D)(hi:D.on i=JQ)(ht:i∈targets)(hg:g=8\/g=9\/g=5)(hk:k∈yH)(wh:k'∈yH)(hs:s∈vd)(uz:num<10)(lP:way<10)(l:QL D.w D.kn way i g k k' s num L)(lm:lk 2 L=JS (.ref (D.ad i))):∃e,Fin b (d+23) L (.cons (.cond (.cmp .lt (.loc 16) (.int 3)) (.cons (.expr (.call (.zu 140) (.cons (.loc 1) (.cons (.loc 2) (.cons (.call (.zu 95) (.cons (.loc 8) (.cons (.loc 2) (.cons (.str [114,101,97,100,101,114]) (.cons .none (.cons (.bin .add (.str [64]) (.call (.zu 70) (.cons (.loc 17) .nil))) (.cons (.loc 14) .nil))))))) .nil))))) .nil) (.cons (.cond (.cmp .eq (.loc 16) (.int 4)) (.cons (.expr (.call (.zu 143) (.cons (.loc 1) (.cons (.loc 2) (.cons (.sub (.loc 9) (.loc 10)) .nil))))) .nil) (.cons (.cond (.cmp .lt (.loc 16) (.int 6)) (.cons (.expr (.call (.zu 122) (.cons (.loc 1) (.cons (.loc 2) (.cons (.sub (.loc 9) (.loc 10)) .nil))))) .nil) (.cons (.cond (.cmp .eq (.loc 16) (.int 6)) (.cons (.expr (.call (.zu 142) (.cons (.loc 1) (.cons (.loc 2) (.cons (.loc 8) .nil))))) .nil) (.cons (.cond (.cmp .eq (.loc 16) (.int 7)) (.cons (.expr (.call (.zu 146) (.cons (.loc 1) (.cons (.loc 2) (.cons (.loc 8) .nil))))) .nil) (.cons (.cond (.cmp .eq (.loc 16) (.int 8)) (.cons (.expr (.call (.zu 137) (.cons (.loc 1) (.cons (.loc 2) (.cons (.loc 26) (.cons (.loc 8) .nil)))))) .nil) (.cons (.expr (.call (.zu 151) (.cons (.loc 1) (.cons (.loc 2) (.cons (.lst (.cons (.loc 8) .nil)) (.cons (.loc 14) .nil)))))) .nil)) .nil)) .nil)) .nil)) .nil)) .nil)) .nil) J D (vN D.T way i g k k' s num e):=by
 obtain⟨hm,tj,_⟩:=VC ht;obtain eg:E ⟨b,JT,JT,d+23⟩ L (.sub (.loc 9) (.loc 10)) J (.ok (.ref (D.ad g)) J):=se (q:=JT) R (.inl (jO hg).1) l.kn (by rw[<-(jO hg).2];exact zx l.g);have lt:∀m:Nat,E ⟨b,JT,JT,d+23⟩ L (.cmp .lt (.loc 16) (.int m)) J (.ok (.bool (decide (way<m))) J):=λm=>by rw[<-ltI];exact zZ (zx l.way) yw jy
 have eq:∀m:Nat,E ⟨b,JT,JT,d+23⟩ L (.cmp .eq (.loc 16) (.int m)) J (.ok (.bool (way==m)) J):=λm=>by rw[<-oF];exact zZ (zx l.way) yw rj
 by_cases h3:way<3;.refine⟨J.length,.cond (lt 3) ?_⟩;rewrite[decide_eq_true h3];rw[if_pos rfl];obtain ed:vN D.T way i g k k' s num J.length=([],w9 D.T i (xB k ⟨J.length,JS ([64]++uQ num),i,s,k⟩ (D.T i).ms)):=if_pos h3;rw[ed];have sm:small (num:Int)=JQ:=Iw (by rw[GJ];exact J4 (Fs uz) (by decide));have a1:Ask D J (J++[.inst 256 (D.wm ⟨J.length,JS ([64]++uQ num),i,s,k⟩)]):=.of R (Gr.push _);obtain⟨zy,c,f⟩:=Md (b:=b) (d:=d+21) (h:=⟨J.length,JS ([64]++uQ num),i,s,k⟩) a1.r hi hm hk ⟨hs,hk,λt ht=>by cases ht;exact iT uz,hm⟩ zA hi;exact Fin.call (a:=481) rfl rfl (zp (zx l.w) (zp (zx lm) (zp (y6 (yp rfl) (zp (zx l.k) (zp (zx lm) (zp zV (zp zQ (zp (yh zV (yC rfl (zx l.num) (YX (F5 _) sm)) (u9 (iT uz).2)) (zp (zx l.s) zf)))))) cg) zf))) a1 ⟨zy,f.out,.inl ⟨rfl,c⟩⟩
 have c3:=lt 3;rw[decide_eq_false h3]at c3;have Yc:Es ⟨b,JT,JT,d+23⟩ L (.cons (.loc 1) (.cons (.loc 2) (.cons (.sub (.loc 9) (.loc 10)) .nil))) J [.ref D.w,.ref (D.ad i),.ref (D.ad g)] J:=zp (zx l.w) (zp (zx lm) (zp eg zf));have a0:Ask D J J:=⟨R,.re⟩;by_cases h4:way=4;.subst h4;exact⟨0,.cond c3 (.cond (eq 4) (Fin.call rfl rfl Yc a0 (gS (d:=d+10) (c:=JQ) R hi ht hg)))⟩
 have c4:=eq 4;rw[beq_false_of_ne h4]at c4;by_cases h6:way<6
 .have ed:vN D.T way i g k k' s num 0=(x9 D.T i g,uF D.T i g JT):=by unfold vN;rewrite[if_neg h3];rewrite[if_pos h6];rw[beq_false_of_ne h4]
  obtain c6:=lt 6;rw[decide_eq_true h6]at c6;exact⟨0,by rw[ed];exact .cond c3 (.cond c4 (.cond c6 (Fin.call rfl rfl Yc a0 (gS (d:=d+10) (c:=JT) R hi ht hg))))⟩
 obtain c6:=lt 6;rw[decide_eq_false h6]at c6;obtain jz:=eq 6;obtain c7:=eq 7;obtain c8:=eq 8;obtain Pz:way=6\/way=7\/way=8\/way=9:=by lia
 rcases Pz with rfl|rfl|rfl|rfl;.exact⟨0,.cond c3 (.cond c4 (.cond c6 (.cond jz (Fin.call rfl rfl (zp (zx l.w) (zp (zx lm) (zp (zx l.k) zf))) a0 (S5 (d:=d+10) R hi hm hk tj 0)))))⟩
 .obtain⟨e,h⟩:=Rz (b:=b) (d:=d) (k':=k') (g:=g) (s:=s) (num:=num) R hi hm hk;exact⟨e,.cond c3 (.cond c4 (.cond c6 (.cond jz (.cond c7 (Fin.call rfl rfl (zp (zx l.w) (zp (zx lm) (zp (zx l.k) zf))) a0 h)))))⟩
 .obtain⟨e,h⟩:=SJ (b:=b) (d:=d) (k':=k') (g:=g) (s:=s) (num:=num) R hi hm hk wh;exact⟨e,.cond c3 (.cond c4 (.cond c6 (.cond jz (.cond c7 (.cond c8 (Fin.call rfl rfl (zp (zx l.w) (zp (zx lm) (zp (zx l.k') (zp (zx l.k) zf)))) a0 h))))))⟩
 .obtain a1:=a0.push (.list [.str k]);obtain⟨e,h⟩:=S1 (b:=b) (d:=d) (k':=k') (g:=g) (num:=num) (l:=J.length) a1.r hi hm hk hs zA;exact⟨e,.cond c3 (.cond c4 (.cond c6 (.cond jz (.cond c7 (.cond c8 (Fin.call rfl rfl (zp (zx l.w) (zp (zx lm) (zp (y5 (zp (zx l.k) zf) rfl) (zp (zx l.s) zf)))) a1 h))))))⟩
theorem SE(R:RI J D)(hx:D.on x=JQ)(ho:yr x=JS i)(ht:i∈targets)(hg:g=8\/g=9\/g=5):uT b (d+14) 565 [.ref D.w,.ref (D.ad x),.ref (D.ad g)] J D (x9 D.T i g,uF D.T i g JT):=by
 obtain⟨D1,z8,c1,R1,q1,lo1,ex,_⟩:=cY (b:=b) (d:=d+1) R hx ho;obtain vJ:D.on g=JQ:=by rcases hg with rfl|rfl|rfl<;>exact R.s.om _ (by decide) (by decide)
 obtain⟨zy,o,h⟩:=gS (b:=b) (d:=d) (c:=JT) R1 q1 ht hg;rw[ex.w,(ex.o g vJ).2,ex.T]at h;rw[ex.T]at o;refine⟨zy,o.pre ex lo1,?_⟩;obtain es:Es ⟨b,JT,JT,d+13⟩ [(1,.ref D.w),(6,.ref (D.ad x)),(27,.ref (D.ad g))] (.cons (.loc 1) (.cons (.call (.zu 68) (.cons (.loc 1) (.cons (.loc 6) .nil))) (.cons (.loc 27) .nil))) J [.ref D.w,.ref (D1.ad i),.ref (D.ad g)] z8:=zp (zx rfl) (zp (yY rfl (zx rfl) (zx rfl) c1) (zp (zx rfl) zf));rcases h with⟨e,c⟩|⟨n,c,z⟩;.exact .inl ⟨e,vK rfl rfl (zr (yJ (y6 (yp rfl) es c)) zj)⟩
 .exact .inr ⟨n,tu rfl rfl (vn (rD (y6 (yp rfl) es c))),z⟩
noncomputable def kF(D:Dt)(i:Nat):Prop:=(∃x,yr x=JS i/\(x∈vh\/x=7/\D.on 7=JQ))\/(i<10/\(i∈vh\/i=7/\D.on 7=JQ))
theorem R6(R:RI J D)(hT:kF D i)(ht:i∈targets)(hg:g=8\/g=9\/g=5)(hk:k∈yH)(wh:k'∈yH)(hs:s∈vd)(uz:num<10)(lP:way<10)(l:QL D.w D.kn way i g k k' s num L):∃e,Fin b (d+23) L (.cons (.cond (.and (.cons (.cmp .eq (.loc 16) (.int 5)) (.cons (.cmp .eq (.sub (.loc 0) (.int 0)) (.str [60])) .nil))) (.cons (.expr (.call (.zu 88) (.cons (.loc 1) (.cons (.sub (.loc 9) (.wX (.loc 0))) (.cons (.sub (.loc 9) (.loc 10)) .nil))))) (.cons (.ret (.str [])) .nil)) .nil) (.cons (.asg 2 (.ite (.cmp .eq (.sub (.loc 0) (.int 0)) (.str [60])) (.call (.zu 68) (.cons (.loc 1) (.cons (.sub (.loc 9) (.wX (.loc 0))) .nil))) (.sub (.loc 9) (.loc 0)))) (.cons (.cond (.cmp .lt (.loc 16) (.int 3)) (.cons (.expr (.call (.zu 140) (.cons (.loc 1) (.cons (.loc 2) (.cons (.call (.zu 95) (.cons (.loc 8) (.cons (.loc 2) (.cons (.str [114,101,97,100,101,114]) (.cons .none (.cons (.bin .add (.str [64]) (.call (.zu 70) (.cons (.loc 17) .nil))) (.cons (.loc 14) .nil))))))) .nil))))) .nil) (.cons (.cond (.cmp .eq (.loc 16) (.int 4)) (.cons (.expr (.call (.zu 143) (.cons (.loc 1) (.cons (.loc 2) (.cons (.sub (.loc 9) (.loc 10)) .nil))))) .nil) (.cons (.cond (.cmp .lt (.loc 16) (.int 6)) (.cons (.expr (.call (.zu 122) (.cons (.loc 1) (.cons (.loc 2) (.cons (.sub (.loc 9) (.loc 10)) .nil))))) .nil) (.cons (.cond (.cmp .eq (.loc 16) (.int 6)) (.cons (.expr (.call (.zu 142) (.cons (.loc 1) (.cons (.loc 2) (.cons (.loc 8) .nil))))) .nil) (.cons (.cond (.cmp .eq (.loc 16) (.int 7)) (.cons (.expr (.call (.zu 146) (.cons (.loc 1) (.cons (.loc 2) (.cons (.loc 8) .nil))))) .nil) (.cons (.cond (.cmp .eq (.loc 16) (.int 8)) (.cons (.expr (.call (.zu 137) (.cons (.loc 1) (.cons (.loc 2) (.cons (.loc 26) (.cons (.loc 8) .nil)))))) .nil) (.cons (.expr (.call (.zu 151) (.cons (.loc 1) (.cons (.loc 2) (.cons (.lst (.cons (.loc 8) .nil)) (.cons (.loc 14) .nil)))))) .nil)) .nil)) .nil)) .nil)) .nil)) .nil)) .nil))) J D (vN D.T way i g k k' s num e):=by
 obtain⟨hm,tj,c0,r0,PS,sV,hle⟩:=VC ht;have en:E ⟨b,JT,JT,d+23⟩ L (.cmp .eq (.sub (.loc 0) (.int 0)) (.str [60])) J (.ok (.bool (Ho 10 i)) J):=by rw[<-hle];exact zZ (yL (zx l.name) yw (cO (j:=0) (by rw[PS];rfl) (by decide))) zV (u6 sV rfl)
 have e5:E ⟨b,JT,JT,d+23⟩ L (.cmp .eq (.loc 16) (.int 5)) J (.ok (.bool (way==5)) J):=by rw[<-oF];exact zZ (zx l.way) yw rj
 have ec:=oH e5 λzz=>en;have ql:∀v,QL D.w D.kn way i g k k' s num (st 2 v L):=λv=>⟨zg rfl l.w,zg rfl l.kn,zg rfl l.way,zg rfl l.name,zg rfl l.g,zg rfl l.k,zg rfl l.k',zg rfl l.s,zg rfl l.num⟩;rcases hT with⟨x,ho,hx⟩|⟨fH,hx⟩
 .have fH:=(qZ ho).1.1;have jA:=nS R.s hx;have gZ:Ho 10 i=JQ:=Iw fH;have fW:E ⟨b,JT,JT,d+23⟩ L (.sub (.loc 9) (.wX (.loc 0))) J (.ok (.ref (D.ad x)) J):=se (q:=JT) R hx l.kn (ff ho l.name);rw[gZ]at en ec;by_cases h5:way=5
  .subst h5;refine⟨0,?_⟩;have eg:E ⟨b,JT,JT,d+23⟩ L (.sub (.loc 9) (.loc 10)) J (.ok (.ref (D.ad g)) J):=se (q:=JT) R (.inl (jO hg).1) l.kn (by rw[<-(jO hg).2];exact zx l.g);obtain⟨zy,o,h⟩:=SE (b:=b) (d:=d+9) R jA ho ht hg;refine⟨zy,L,o,?_⟩;rcases h with⟨e,c⟩|⟨n,c,z⟩;.exact .inl ⟨e,.inr (zT (ye ec (zr (yJ (xq rfl (zx l.w) fW eg c)) (zT (zL zV)))))⟩
   .exact .inr ⟨n,vn (ye ec (vn (rD (xq rfl (zx l.w) fW eg c)))),z⟩
  .rw[beq_false_of_ne h5]at ec;obtain⟨D1,z8,c1,R1,q1,lo1,ex,_⟩:=cY (b:=b) (d:=d+11) R jA ho;obtain ql:=ql (.ref (D1.ad i));rw[<-ex.w,<-ex.kn]at ql;obtain⟨e,h⟩:=YU (b:=b) (d:=d) R1 q1 ht hg hk wh hs uz lP ql yz;rw[ex.T]at h;exact⟨e,.cons (zO ec zj) .re Kp.re.lo (.cons (yu (wq en (yY rfl (zx l.w) fW c1))) ex lo1 h)⟩
 .have gZ:Ho 10 i=JT:=by cases q:Ho 10 i with|false=>rfl|true=>obtain this:=JA q;lia
  rw[gZ]at en ec;rw[GS]at ec;have hi:=nS R.s hx;have em:z6 i=tM i:=by
   obtain this:∀i<10,zR (z6 i) (tM i)=JQ:=by decide+kernel
   exact xj.mp (this i fH)
  obtain⟨e,h⟩:=YU (b:=b) (d:=d) R hi ht hg hk wh hs uz lP (ql _) yz;exact⟨e,.cons (zO ec zj) .re Kp.re.lo (.cons (yu (wt en (se (q:=JT) R hx l.kn (by rw[<-em];exact zx l.name)))) .re Kp.re.lo h)⟩
theorem MT(R:RI J D)(hT:kF D i)(ht:i∈targets)(hg:g=8\/g=9\/g=5)(hk:k∈yH)(wh:k'∈yH)(hs:s∈vd)(uz:num<10)(lP:way<10):X2 λe zy=>Call ⟨b,JT,JT,d+24⟩ (.fn 946) [.ref D.w,.ref D.kn,uj way i g k k' s num] J (.ok (.str (vN D.T way i g k k' s num e).1) zy)/\Out D (vN D.T way i g k k' s num e).2 J zy:=by
 obtain x0:=uC (F:=⟨b,JT,JT,d+23⟩) (L:=[(1,.ref D.w),(9,.ref D.kn),(28,uj way i g k k' s num)]) (xs:=[16,0,10,8,26,14,17]) (J:=J) rfl (zx (x:=28) (v:=uj way i g k k' s num) rfl) (L':=[(1,.ref D.w),(9,.ref D.kn),(28,uj way i g k k' s num),(16,.int way),(0,zU i),(10,zU g),(8,.str k),(26,.str k'),(14,.str s),(17,.int num)]) rfl;obtain⟨e,zy,L',o,h⟩:=R6 (b:=b) (d:=d) (L:=[(1,.ref D.w),(9,.ref D.kn),(28,uj way i g k k' s num),(16,.int way),(0,zU i),(10,zU g),(8,.str k),(26,.str k'),(14,.str s),(17,.int num)]) R hT ht hg hk wh hs uz lP ⟨rfl,rfl,rfl,rfl,rfl,rfl,rfl,rfl,rfl⟩;refine⟨e,zy,?_,o⟩;rcases h with⟨e,h|h⟩|⟨n,h,fs,t,z1,z2,xF,o',z3,z4,z5⟩;.rw[e];exact zI rfl rfl (zr x0 (zr (U_ h) (zT (zL zV))))
 .rw[e];exact zI rfl rfl (zr x0 (zT (U_ h)))
 .exact zI rfl rfl (zr x0 (zT (KP h z1 rfl (yC (F:=⟨b,JQ,JT,d+23⟩) rfl (zM (RX (zx yz) z1 rfl z2) z3 rfl z4) (k_ (q:=JQ) z5)))))
end
noncomputable def Dt.y4(D:Dt)(n:Nat)(nu:Int):Dt:={D.mk' 7 n nu with zE:=D.zE}
section
variable{b:Bc}{d lim:Nat}{q:Bool}{J yx zt zy zv:St}{T T':Tb}{Q:Mt}{i g n x j way num:Nat}{k k' s:List Nat}{L:Loc}{D:Dt}
theorem RI.SN(R:RI J D){nm:Int}{main:V}(yI:D.on 7=JT)(hn:∀i,D.on i=JQ->D.nu i<=nm)(hl:J.length<=n)(k:Bt [D.w,D.kn] J zy)(hw:zy[D.w]?=JS (.inst 899 (wf D.w (nm+1) D.zE main)))(hk:zy[D.kn]?=JS (.dict (dput [67] (.ref n) (ux D))))(b0:zy[n]?=JS (.inst 228 (mf (n+1) (n+2) (n+3) (n+4) (n+5) (.int (nm+1)) (.ref (D.ad 4)) .none (.str [67]) JQ (.ref (D.ad 5)) .none .none .none)))(b2:zy[n+2]?=JS (.dict []))(b4:zy[n+4]?=JS (.list []))(b5:zy[n+5]?=JS (.list [])):RI zy (D.y4 n (nm+1)):=by
 obtain h5:=R.s.om 5 (by decide) (by decide);obtain s0:=v9.k9 (nu:=nm) R (j:=7) (p:=5) (by decide) nofun yI rfl h5 hn hl;obtain s':v9 (D.y4 n (nm+1)):=⟨s0.inj,s0.lo,s0.w2,s0.kn,s0.di,s0.dk,s0.li,s0.pm,s0.om,s0.tm,s0.bd,s0.un,s0.a7,s0.wf⟩;obtain⟨n0,m0,nZ,_⟩:=R.wo;obtain wk:=R.s.kn;have nn:∀{r:Nat}{o:O},J[r]?=JS o->(match o with|.inst c _=>!JG c 899|_=>JQ)=JQ->r≠D.kn->r∉[D.w,D.kn]:=λh hc hr m=>by
  rcases JJ.mp m with z|z;.rw[z,nZ]at h;cases h;cases hc
  .exact hr (JP.mp z)
 have ni:∀{r:Nat}{c:Nat}{fs:Loc},J[r]?=JS (.inst c fs)->c≠899->zy[r]?=JS (.inst c fs):=λh hc=>k.2 _ _ h (nn h (by show(!JG _ _)=JQ;rw[Ii];cases q:JG _ _ with|false=>rfl|true=>exact absurd (JD q) hc) λe=>by have:=R.kn;rw[<-e,h]at this;cases this);have nl:∀{r:Nat}{xs:List V},J[r]?=JS (.list xs)->zy[r]?=JS (.list xs):=λh=>k.2 _ _ h (nn h rfl λe=>by have:=R.kn;rw[<-e,h]at this;cases this);have od:∀{x},D.on x=JQ->x≠7:=λh=>ky yI h;obtain N3:∀x,yr x≠JS 7:=λx e=>by have:=(qZ e).1.1;lia
 have C:∀x,(D.y4 n (nm+1)).opt (yr x)=D.opt (yr x):=λx=>pE (D:=D) (j:=7) (n:=n) (nu:=nm+1) (N3 x);obtain op:∀{x},D.on x=JQ->(D.y4 n (nm+1)).opt (par x)=D.opt (par x):=λ{x}h=>pE (D:=D) (j:=7) (n:=n) (nu:=nm+1) λe=>by rw[R.s.pm x 7 h e]at yI;cases yI
 obtain oa:∀{x},D.on x=JQ->x<18->(D.y4 n (nm+1)).opt (yT x)=D.opt (yT x):=λ{x}h hm=>pE (D:=D) (j:=7) (n:=n) (nu:=nm+1) λe=>by rw[o9 R.s h hm 7 e]at yI;cases yI
 have mD:∀{x},x≠7->(D.y4 n (nm+1)).da x=D.da x:=λh=>if_neg h;have pK:∀(c:Bool){x},x≠7->(D.y4 n (nm+1)).la c x=D.la c x:=λc x h=>if_neg h;have pA:∀{x},x≠7->(D.y4 n (nm+1)).nu x=D.nu x:=λh=>if_neg h;have va:∀{x},x≠7->(D.y4 n (nm+1)).ad x=D.ad x:=λh=>if_neg h;obtain Vm:∀{l:List Nat},(∀x∈l,x≠7)->rf (D.y4 n (nm+1)).ad l=rf D.ad l:=λh=>Wk (D:=D) (j:=7) (n:=n) (nu:=nm+1) h;obtain un:=R.s.un 7 yI;have sp:∀{x},(D.y4 n (nm+1)).on x=JQ->x=7\/x≠7/\D.on x=JQ:=λ{x}h=>by
  by_cases e:x=7;.exact .inl e
  .exact .inr ⟨e,by rw[show(D.y4 n (nm+1)).on x=D.on x from vH (D:=D) (n:=n) (nu:=nm+1) e]at h;exact h⟩
 obtain⟨md,h1,h2⟩:=R.md;have h3:r6 zy D md:=h2.to λa s⟨fs,q1,q2⟩=>⟨fs,ni q1 (by decide),q2⟩;refine⟨⟨nm+1,main,hw,λx hx=>?_⟩,⟨md,k.2 _ _ h1 (nn h1 rfl (show D.w+2≠D.kn by lia)),⟨λx hx=>?_,h3.e,h3.nd,h3.ks⟩⟩,k.2 _ _ R.c0 (nn R.c0 rfl (by lia)),k.2 _ _ R.c1 (nn R.c1 rfl (by lia)),k.2 _ _ R.n0 (nn R.n0 rfl (show D.w-2≠D.kn by lia)),k.2 _ _ R.n1 (nn R.n1 rfl (show D.w-1≠D.kn by lia)),?_,λx hx hm=>?_,λx hx hm=>?_,λx hx hm q hq=>?_,λx c hx hm=>?_,λx hx hm=>?_,s'⟩
 .rcases sp hx with rfl|⟨e,h⟩;.exact Int.le_of_eq (show(D.y4 n (nm+1)).nu 7=nm+1 from rfl)
  .rw[pA e];have:=hn x h;lia
 .rw[va (show x≠7 by lia)];exact h3.j x hx
 .have:ux (D.y4 n (nm+1))=dput [67] (.ref n) (ux D):=by unfold ux;rw[va (show 2≠7 by decide),va (show 4≠7 by decide),va (show 1≠7 by decide),va (show 5≠7 by decide),va (show 6≠7 by decide),va (show 8≠7 by decide),va (show 9≠7 by decide),va (show 20≠7 by decide),va (show 21≠7 by decide),yI,show(D.y4 n (nm+1)).on 7=JQ from lA (D:=D) (j:=7) (n:=n) (nu:=nm+1),show(D.y4 n (nm+1)).ad 7=n from rfl];rfl
  show zy[D.kn]?=_;rw[this];exact hk
 .rcases sp hx with rfl|⟨e,h⟩
  .rw[show(D.y4 n (nm+1)).ad 7=n from rfl];refine⟨.none,n+1,n+3,?_,.inl rfl⟩;unfold Dt.w_;rw[show(D.y4 n (nm+1)).da 7=n+2 from rfl,show(D.y4 n (nm+1)).la JT 7=n+4 from rfl,show(D.y4 n (nm+1)).la JQ 7=n+5 from rfl,show(D.y4 n (nm+1)).nu 7=nm+1 from rfl,C,show(D.y4 n (nm+1)).opt (par 7)=.ref (D.ad 5)from(tF (show(D.y4 n (nm+1)).on 5=JQ from(vH (D:=D) (j:=7) (n:=n) (nu:=nm+1) (show 5≠7 by decide)).trans h5)).trans (by rw[va (show 5≠7 by decide)])];obtain e4:(D.y4 n (nm+1)).ad (if yf 7=JQ then 4 else 3)=D.ad 4:=va (show(if yf 7=JQ then 4 else 3)≠7 by decide);obtain RZ:D.opt (yr 7)=.none:=by refine WG (j:=17) ?_;cases q:D.on 17 with|false=>rfl|true=>rw[R.s.a7 q]at yI;cases yI
   rewrite[e4];rw[RZ];exact b0
  .obtain⟨kp,a1,a3,g1,g2⟩:=R.oo x h hm;rw[va e];refine⟨kp,a1,a3,?_,g2.imp id λ⟨v,l,e1,e2,e3⟩=>⟨v,l,e1,e2,λz=>⟨(e3 z).1,?_⟩⟩⟩;.unfold Dt.w_;rewrite[mD e];rewrite[pK JT e];rewrite[pK JQ e];rewrite[pA e];rewrite[C];rewrite[op h];rewrite[oa h hm];rw[va (show(if yf x=JQ then 4 else 3)≠7 by split<;>decide)];exact ni g1 (by decide)
   .show zy[l]?=JS (.list (rf (D.y4 n (nm+1)).ad (ln D.T x)));rw[Vm λy hy=>od ((R.tK h hm).2 y hy).1];exact nl (e3 z).2
 .rcases sp hx with rfl|⟨e,h⟩;.rw[show(D.y4 n (nm+1)).da 7=n+2 from rfl,show((D.y4 n (nm+1)).T 7).ms=[]from un.2];exact b2
  .rw[mD e];exact k.2 _ _ (R.mm x h hm) (nn (R.mm x h hm) rfl (R.s.dk x h hm))
 .rcases sp hx with rfl|⟨e,h⟩;.obtain hq:q∈(D.T 7).ms:=hq;rw[un.2]at hq;exact nomatch hq
  .obtain⟨g1,g2⟩:=R.ee x h hm q hq;obtain e2:=od g2;refine⟨?_,by rw[show(D.y4 n (nm+1)).on q.2.o=D.on q.2.o from vH (D:=D) (n:=n) (nu:=nm+1) e2];exact g2⟩;have:(D.y4 n (nm+1)).wm q.2=D.wm q.2:=by unfold Dt.wm;rw[va e2]
   rw[this];exact ni g1 (by decide)
 .rcases sp hx with rfl|⟨e,h⟩
  .have:(D.T 7).li c=[]:=(un.1 c).trans (by cases c<;>rfl);rw[show((D.y4 n (nm+1)).T 7).li c=[]from this,show(D.y4 n (nm+1)).la c 7=n+(if c then 5 else 4)from rfl];cases c;.exact b4
   .exact b5
  .rewrite[pK c e];rw[Vm (l:=((D.y4 n (nm+1)).T x).li c) λy hy=>od (R.mem (show y∈(D.T x).li c from hy)).1];exact nl (R.ll x c h hm)
 .rcases sp hx with rfl|⟨e,h⟩;.lia
  .rw[va e];obtain⟨a,g⟩:=R.th x h hm;have:(D.y4 n (nm+1)).tY x a=D.tY x a:=by unfold Dt.tY;rewrite[pA e];rewrite[va (show x-15≠7 by rcases R.s.bd x h with h|h|h<;>lia)];rw[C]
   exact⟨a,by rw[this];exact ni g (by decide)⟩
end
structure LL(w kn m ml:Nat)(sm:Bool)(L:Loc):Prop where
 marks:lk 25 L=some (.ref ml)
 model:lk 7 L=some (.ref m)
 small:lk 37 L=some (.bool sm)
 ou:lk 1 L=some (.ref w)
 known:lk 9 L=some (.ref kn)
noncomputable def WT(x:Nat):Bool:=JG 25 x||(JG 7 x||(JG 37 x||(JG 1 x||JG 9 x)))
theorem LL.st{w kn m ml x:Nat}{sm:Bool}{L:Loc}{v:V}(h:LL w kn m ml sm L)(hx:WT x=JT):LL w kn m ml sm (st x v L):=by obtain⟨a1,hx⟩:=IS.mp hx;obtain⟨a2,hx⟩:=IS.mp hx;obtain⟨a3,hx⟩:=IS.mp hx;obtain⟨a4,a5⟩:=IS.mp hx;exact⟨zg a1 h.marks,zg a2 h.model,zg a3 h.small,zg a4 h.ou,zg a5 h.known⟩
noncomputable def xo(c:Bool):List Nat:=match c with|JQ=>[15,10,16,12,5,6,11,8,17,7]|JT=>[15,10,16,12,5,6,11,8]
noncomputable def vg(c:Bool)(m:Nat):Nat:=(xo c).getD (m/10%(xo c).length) 0
noncomputable def ua(m:Nat):Nat:=[8,9,9,5].getD (m/10/10%4) 0
noncomputable def pickK(m:Nat):List Nat:=yH.getD (m%3) []
noncomputable def qX(m:Nat):List Nat:=vd.getD (m%3) []
section
variable{b:Bc}{d lim:Nat}{q:Bool}{J yx zt zy zv:St}{T T':Tb}{Q:Mt}{i g n x j way num ml m p:Nat}{k k' s:List Nat}{L:Loc}{D:Dt}{sm:Bool}{ms:List Nat}
theorem KR(R:RI J D)(yI:D.on 7=JT)(l1:lk 1 L=JS (.ref D.w))(l2:lk 9 L=JS (.ref D.kn)):X2 λD' zy=>C7 (X1 ⟨b,JT,JT,d+4⟩ L (.y7 (.loc 9) (.str [67]) (.zl (.loc 1) 55 (.cons (.str [67]) (.cons (.bool JQ) (.cons (.sub (.loc 9) (.str [65])) .nil))))) J (.ok .next L zy)) (RI zy D') (D'.w=D.w) (D'.kn=D.kn) (D'.T=D.T) (D'.on 7=JQ) (Lo D J zy):=by
 obtain⟨num,main,hw,hn⟩:=R.wo;obtain wk:=R.s.kn;obtain Jv:=y0 R.kn;obtain len:(J.set D.w (.inst 899 (wf D.w (num+1) D.zE main))).length=J.length:=IB;obtain s5:=Uc (b:=b) (d:=d) (xr:=.str [67]) (at_:=.none) (pa:=.ref (D.ad 5)) R hw rfl;obtain g2:=YF (zv:=J.set D.w (.inst 899 (wf D.w (num+1) D.zE main))) (l:=tH J.length (num+1) (.ref (D.ad 4)) (.str [67]) (.ref (D.ad 5)) .none);obtain ti:=g2.get (get_set (o:=.inst 899 (wf D.w (num+1) D.zE main)) hw);obtain nh:=g2.get (zK (o:=.inst 899 (wf D.w (num+1) D.zE main)) R.kn (by lia));have at_:∀{k:Nat}{o:O},(tH J.length (num+1) (.ref (D.ad 4)) (.str [67]) (.ref (D.ad 5)) .none)[k]?=JS o->(J.set D.w (.inst 899 (wf D.w (num+1) D.zE main))++tH J.length (num+1) (.ref (D.ad 4)) (.str [67]) (.ref (D.ad 5)) .none)[J.length+k]?=JS o:=λ{k o}h=>by rewrite[I_ (by rw[len];exact Hy _ _)];rewrite[len];rw[Fu];exact h
 obtain b0:=at_ (k:=0) rfl;obtain b2:=at_ (k:=2) rfl;obtain b4:=at_ (k:=4) rfl;obtain b5:=at_ (k:=5) rfl;obtain k2:Bt [D.w,D.kn] J (J.set D.w (.inst 899 (wf D.w (num+1) D.zE main))++tH J.length (num+1) (.ref (D.ad 4)) (.str [67]) (.ref (D.ad 5)) .none):=(Bt.re.set _ (.inl (.head _))).tr (.of g2);generalize J.set D.w (.inst 899 (wf D.w (num+1) D.zE main))++tH J.length (num+1) (.ref (D.ad 4)) (.str [67]) (.ref (D.ad 5)) .none=zv at s5 ti nh b0 b2 b4 b5 k2;obtain k3:=k2.set (.dict (dput [67] (.ref J.length) (ux D))) (.inl (.tail _ (.head _)));have sh:short (ux D)=JQ:=by unfold ux;cases D.on 7<;>rfl
 refine⟨D.y4 J.length (num+1),_,ot rfl (yo (zx l1) (xS hw rfl rfl) (zp zV (zp sR (zp (se (q:=JT) R (.inl (by decide:5∈vh)) l2 zV) zf))) (zI rfl rfl s5)) (zx l2) zV nh sh,R.SN yI hn (JK _) k3 (zK ti (by lia)) (get_set nh) (zK b0 (by lia)) (zK b2 (by lia)) (zK b4 (by lia)) (zK b5 (by lia)),rfl,rfl,rfl,rfl,k3.lo λr h=>?_⟩;rcases JJ.mp h with z|z;.lia
 .rw[JP.mp z];lia
theorem SA(R:RI J D):xg ⟨b,JT,JT,d⟩ .yQ (.str [67]) (.ref D.kn) J (D.on 7):=by obtain this:=(mH (F:=⟨b,JT,JT,d⟩) (k:=[67]) R.kn).1;rw[show(zG [67] (ux D)).isSome=D.on 7 by unfold ux;cases D.on 7<;>rfl]at this;exact this
theorem Yk{e:M}{l:List Nat}(R:RI J D)(he:E ⟨b,JT,JT,d⟩ L e (J++[.list (za l)]) (.ok (.ref D.kn) (J++[.list (za l)])))(hl:l.length<=10){m:M}(hm:E ⟨b,JT,JT,d⟩ L m J (.ok (.ref J.length) (J++[.list (za l)]))):E ⟨b,JT,JT,d⟩ L (.bin .mul m (.call (.zu 45) (.cons (.cmp .yQ (.str [67]) e) .nil))) J (.ok (.ref (J.length+1)) ((J++[.list (za l)])++[.list (za (if D.on 7 then l else[]))])):=by obtain R':=R.gr (Gr.push (.list (za l)));obtain this:=yh hm (yC (g:=45) rfl (zZ zV he (SA R')) YY) (b6 zA (by cases D.on 7;exact .inl rfl;exact .inr rfl) (sO (by lia)));rw[JO]at this;cases hq:D.on 7<;>(rw[hq]at this;exact this)
end
noncomputable def yA(ms:List Nat):List V:=ms.map λ(m:Nat)=>V.int (m:Int)
theorem cA(c:Bool)(m:Nat):C5 ((xo c)[m/10%(xo c).length]?=JS (vg c m)) (vg c m∈targets) (c=JT->vg c m≠17/\vg c m≠7) ((xo c).length<=10) (0<(xo c).length):=by
 have h0:0<(xo c).length:=by cases c<;>decide
 obtain yN:=Hv (m/10) h0;have e:(xo c)[m/10%(xo c).length]?=JS (vg c m):=by unfold vg;rewrite[IY];rw[Ic yN];rfl
 obtain hm:=J5 e;refine⟨e,?_,λh=>?_,by cases c<;>decide,h0⟩
 .obtain this:∀c,∀x∈xo c,x∈targets:=by decide
  exact this c _ hm
 .subst h;obtain this:∀x∈xo JT,x≠17/\x≠7:=by decide
  exact this _ hm
theorem getD_at{zi:Type}{l:List zi}{d:zi}{j:Nat}(h:j<l.length):l[j]?=JS (l.getD j d):=by rewrite[IY];rw[Ic h];rfl
theorem WB(m:Nat):ua m=8\/ua m=9\/ua m=5:=by
 obtain this:∀j<4,[8,9,9,5].getD j 0=8\/[8,9,9,5].getD j 0=9\/[8,9,9,5].getD j 0=5:=by decide
 exact this _ (Hv _ (by decide))
theorem kh(m:Nat):pickK m∈yH/\∃c,[97,98,99][m%3]?=JS c/\[c]=pickK m:=by
 have h:=Hv m (show 0<3 by decide);unfold pickK;generalize m%3=j at*;obtain this:j=0\/j=1\/j=2:=by lia
 rcases this with rfl|rfl|rfl<;>exact⟨by decide,_,rfl,rfl⟩
theorem ct(m:Nat):qX m∈vd/\(sL vd)[m%3]?=JS (.str (qX m)):=by
 have h:=Hv m (show 0<3 by decide);unfold qX;generalize m%3=j at*;obtain this:j=0\/j=1\/j=2:=by lia
 rcases this with rfl|rfl|rfl<;>exact⟨by decide,rfl⟩
section
variable{b:Bc}{d lim:Nat}{q:Bool}{J yx zt zy zv:St}{T T':Tb}{Q:Mt}{i g n x j way num ml m p w kn mm:Nat}{k k' s:List Nat}{L:Loc}{D:Dt}{sm:Bool}{ms:List Nat}
noncomputable def W9(c:Bool)(m p:Nat):V:=uj (m%10) (vg c m) (ua m) (pickK (m/10/40)) (pickK (m/10/120)) (qX (m/10/360)) p
theorem Yv{e:M}{a z:Nat}(hz:0<z/\z<1000000)(he:E ⟨b,JT,JT,d⟩ L e J (.ok (.int (a:Int)) J)):E ⟨b,JT,JT,d⟩ L (.sub (.str [97,98,99]) (.bin .mod (.bin .floordiv e (.int z)) (.int 3))) J (.ok (.str (pickK (a/z))) J):=by obtain⟨_,c,h1,h2⟩:=kh (a/z);rw[<-h2];exact yL zV (yh (yh he yw (oP (by lia) (by lia))) yw (qy (by decide))) (cO (j:=a/z%3) h1 (Hm (Hv _ (by decide)) (by decide)))
theorem O7(R:RI J D)(l:LL D.w D.kn mm ml sm L)(hk:lk 12 L=JS (.int p))(hm:J[ml]?=JS (.list (yA ms)))(hp:ms[p]?=JS m)(lT:p<10):X2 λL' zv=>C5 (∀{r:S}{out:SR},XB ⟨b,JT,JT,d⟩ L' r zv out->XB ⟨b,JT,JT,d⟩ L (.cons (.asg 15 (.bin .floordiv (.sub (.loc 25) (.loc 12)) (.int 10))) (.cons (.asg 29 (.bin .add (.lst (.cons (.str [60,65,62]) (.cons (.str [60,97,62]) (.cons (.str [60,66,62]) (.cons (.str [60,77,62]) (.cons (.str [65]) (.cons (.str [66]) (.cons (.str [60,99,62]) (.cons (.str [77]) .nil))))))))) (.bin .mul (.lst (.cons (.str [60,67,62]) (.cons (.str [67]) .nil))) (.call (.zu 45) (.cons (.cmp .yQ (.str [67]) (.loc 9)) .nil))))) (.cons (.yD [0,10] (.tup (.cons (.sub (.loc 29) (.bin .mod (.loc 15) (.call (.zu 31) (.cons (.loc 29) .nil)))) (.cons (.sub (.lst (.cons (.str [77]) (.cons (.str [78]) (.cons (.str [78]) (.cons (.str [65]) .nil))))) (.bin .mod (.bin .floordiv (.loc 15) (.int 10)) (.int 4))) .nil)))) (.cons (.yD [8,26,14] (.tup (.cons (.sub (.str [97,98,99]) (.bin .mod (.bin .floordiv (.loc 15) (.int 40)) (.int 3))) (.cons (.sub (.str [97,98,99]) (.bin .mod (.bin .floordiv (.loc 15) (.int 120)) (.int 3))) (.cons (.sub (.lst (.cons (.str [112,117,98,108,105,99]) (.cons (.str [112,114,105,118,97,116,101]) (.cons (.str [112,114,111,116,101,99,116,101,100]) .nil)))) (.bin .mod (.bin .floordiv (.loc 15) (.int 360)) (.int 3))) .nil))))) (.cons (.asg 28 (.tup (.cons (.bin .mod (.sub (.loc 25) (.loc 12)) (.int 10)) (.cons (.loc 0) (.cons (.loc 10) (.cons (.loc 8) (.cons (.loc 26) (.cons (.loc 14) (.cons (.loc 12) .nil))))))))) r))))) J out) (Gr J zv) (LL D.w D.kn mm ml sm L') (lk 28 L'=JS (W9 (D.on 7) m p)) (lk 12 L'=JS (.int p)):=by
 obtain em:∀{L:Loc}{zv:St},Gr J zv->lk 25 L=JS (.ref ml)->lk 12 L=JS (.int p)->E ⟨b,JT,JT,d⟩ L (.sub (.loc 25) (.loc 12)) zv (.ok (.int (m:Int)) zv):=λg l1 l2=>yL (zx l1) (zx l2) (tA (g.get hm) (by unfold yA;rewrite[JF];rw[hp];rfl) (Hm lT (by decide)));obtain x1:=yu (x:=15) (yh (em .rfl l.marks hk) yw (oP (j:=10) (by decide) (by decide)));obtain l1:=l.st (x:=15) (v:=.int ((m/10:Nat):Int)) rfl;obtain k1:lk 12 (st 15 (.int ((m/10:Nat):Int)) L)=JS (.int p):=zg rfl hk;obtain n1:lk 15 (st 15 (.int ((m/10:Nat):Int)) L)=JS (.int ((m/10:Nat):Int)):=yz;obtain g1:=Gr.push (J:=J) (.list (za (xo JT)));obtain ea:E ⟨b,JT,JT,d⟩ (st 15 (.int ((m/10:Nat):Int)) L) (.lst (.cons (.str [60,65,62]) (.cons (.str [60,97,62]) (.cons (.str [60,66,62]) (.cons (.str [60,77,62]) (.cons (.str [65]) (.cons (.str [66]) (.cons (.str [60,99,62]) (.cons (.str [77]) .nil))))))))) J (.ok (.ref J.length) (J++[.list (za (xo JT))])):=y5 (zp zV (zp zV (zp zV (zp zV (zp zV (zp zV (zp zV (zp zV zf)))))))) rfl;obtain et:=Yk (b:=b) (d:=d) (L:=st 15 (.int ((m/10:Nat):Int)) L) (l:=[17,7]) (R.gr g1) (zx (x:=9) l1.known) (by decide) (m:=(.lst (.cons (.str [60,67,62]) (.cons (.str [67]) .nil)))) (y5 (zp zV (zp zV zf)) rfl);obtain g2:Gr J (((J++[O.list (za (xo JT))])++[.list (za [17,7])])++[.list (za (if D.on 7 then[17,7]else[]))]):=(g1.tr (Gr.push _)).tr (Gr.push _);obtain h1:(((J++[O.list (za (xo JT))])++[O.list (za [17,7])])++[O.list (za (if D.on 7 then[17,7]else[]))])[J.length]?=JS (.list (za (xo JT))):=(Gr.push _).get ((Gr.push _).get zA);obtain h2:(((J++[O.list (za (xo JT))])++[O.list (za [17,7])])++[O.list (za (if D.on 7 then[17,7]else[]))])[(J++[O.list (za (xo JT))]).length+1]?=JS (.list (za (if D.on 7 then[17,7]else[]))):=by obtain this:=zA (J:=(J++[O.list (za (xo JT))])++[O.list (za [17,7])]) (o:=.list (za (if D.on 7 then[17,7]else[])));rwa [JO (bs:=[O.list (za [17,7])])]at this
 obtain eb:=yh ea et (mM h1 h2 (by cases D.on 7<;>rfl));rw[show za (xo JT)++za (if D.on 7 then[17,7]else[])=za (xo (D.on 7))by cases D.on 7<;>rfl]at eb;generalize(((J++[O.list (za (xo JT))])++[O.list (za [17,7])])++[O.list (za (if D.on 7 then[17,7]else[]))])=zv at eb g2;obtain x2:=yu (x:=29) eb;obtain g3:Gr J (zv++[.list (za (xo (D.on 7)))]):=g2.tr (Gr.push _);obtain hn:(zv++[O.list (za (xo (D.on 7)))])[zv.length]?=JS (.list (za (xo (D.on 7)))):=zA;generalize Jr:zv.length=m_ at x2 hn;generalize zv++[O.list (za (xo (D.on 7)))]=yU at x2 hn g3;obtain⟨t1,_,_,t4,t5⟩:=cA (D.on 7) m;obtain l2:=l1.st (x:=29) (v:=.ref m_) rfl;obtain n2:lk 15 (st 29 (.ref m_) (st 15 (.int ((m/10:Nat):Int)) L))=JS (.int ((m/10:Nat):Int)):=zg rfl n1;obtain k2:lk 12 (st 29 (.ref m_) (st 15 (.int ((m/10:Nat):Int)) L))=JS (.int p):=zg rfl k1;obtain s2:lk 29 (st 29 (.ref m_) (st 15 (.int ((m/10:Nat):Int)) L))=JS (.ref m_):=yz;generalize st 29 (.ref m_) (st 15 (.int ((m/10:Nat):Int)) L)=yi at x2 l2 n2 k2 s2;obtain ei:E ⟨b,JT,JT,d⟩ yi (.sub (.loc 29) (.bin .mod (.loc 15) (.call (.zu 31) (.cons (.loc 29) .nil)))) yU (.ok (zU (vg (D.on 7) m)) yU):=by refine yL (zx s2) (yh (zx n2) (yC rfl (zx s2) (pj hn (sO (by lia)))) (qy (by rw[show(za (xo (D.on 7))).length=(xo (D.on 7)).length from JN _];lia))) ?_;rw[show(za (xo (D.on 7))).length=(xo (D.on 7)).length from JN _];exact tA (j:=m/10%(xo (D.on 7)).length) hn (by unfold za;rewrite[JF];rw[t1];rfl) (Hm (Hv _ t5) (GL t4 (by decide)))
 obtain eg:E ⟨b,JT,JT,d⟩ yi (.sub (.lst (.cons (.str [77]) (.cons (.str [78]) (.cons (.str [78]) (.cons (.str [65]) .nil))))) (.bin .mod (.bin .floordiv (.loc 15) (.int 10)) (.int 4))) yU (.ok (zU (ua m)) (yU++[.list (za [8,9,9,5])])):=yL (y5 (zp zV (zp zV (zp zV (zp zV zf)))) rfl) (yh (yh (zx n2) yw (oP (by decide) (by decide))) yw (qy (by decide))) (tA (j:=m/10/10%4) (zA (o:=.list (za [8,9,9,5]))) (by unfold za ua;rewrite[JF];rw[getD_at (d:=0) (show m/10/10%4<[8,9,9,5].length from Hv _ (by decide))];rfl) (Hm (Hv _ (by decide)) (by decide)));obtain x3:=uC (F:=⟨b,JT,JT,d⟩) (L:=yi) (xs:=[0,10]) rfl (x_ (zp ei (zp eg zf)) rfl) (L':=st 10 (zU (ua m)) (st 0 (zU (vg (D.on 7) m)) yi)) rfl;obtain g4:Gr J (yU++[.list (za [8,9,9,5])]):=g3.tr (Gr.push _);generalize yU++[O.list (za [8,9,9,5])]=xl at x3 g4;obtain l3:=(l2.st (x:=0) (v:=zU (vg (D.on 7) m)) rfl).st (x:=10) (v:=zU (ua m)) rfl;obtain n3:lk 15 (st 10 (zU (ua m)) (st 0 (zU (vg (D.on 7) m)) yi))=JS (.int ((m/10:Nat):Int)):=zg rfl (zg rfl n2);obtain k3:lk 12 (st 10 (zU (ua m)) (st 0 (zU (vg (D.on 7) m)) yi))=JS (.int p):=zg rfl (zg rfl k2);obtain s3:lk 0 (st 10 (zU (ua m)) (st 0 (zU (vg (D.on 7) m)) yi))=JS (zU (vg (D.on 7) m)):=zg rfl yz;obtain u3:lk 10 (st 10 (zU (ua m)) (st 0 (zU (vg (D.on 7) m)) yi))=JS (zU (ua m)):=yz;generalize st 10 (zU (ua m)) (st 0 (zU (vg (D.on 7) m)) yi)=kI at x3 l3 n3 k3 s3 u3;obtain es:E ⟨b,JT,JT,d⟩ kI (.sub (.lst (.cons (.str [112,117,98,108,105,99]) (.cons (.str [112,114,105,118,97,116,101]) (.cons (.str [112,114,111,116,101,99,116,101,100]) .nil)))) (.bin .mod (.bin .floordiv (.loc 15) (.int 360)) (.int 3))) xl (.ok (.str (qX (m/10/360))) (xl++[.list (sL vd)])):=yL (y5 (zp zV (zp zV (zp zV zf))) rfl) (yh (yh (zx n3) yw (oP (by decide) (by decide))) yw (qy (by decide))) (tA (j:=m/10/360%3) (zA (o:=.list (sL vd))) (ct (m/10/360)).2 (Hm (Hv _ (by decide)) (by decide)));obtain x4:=uC (F:=⟨b,JT,JT,d⟩) (L:=kI) (xs:=[8,26,14]) rfl (x_ (zp (Yv (z:=40) (by decide) (zx n3)) (zp (Yv (z:=120) (by decide) (zx n3)) (zp es zf))) rfl) (L':=st 14 (.str (qX (m/10/360))) (st 26 (.str (pickK (m/10/120))) (st 8 (.str (pickK (m/10/40))) kI))) rfl;obtain g5:Gr J (xl++[.list (sL vd)]):=g4.tr (Gr.push _);generalize xl++[O.list (sL vd)]=wI at x4 g5;obtain l4:=((l3.st (x:=8) (v:=.str (pickK (m/10/40))) rfl).st (x:=26) (v:=.str (pickK (m/10/120))) rfl).st (x:=14) (v:=.str (qX (m/10/360))) rfl;obtain k4:lk 12 (st 14 (.str (qX (m/10/360))) (st 26 (.str (pickK (m/10/120))) (st 8 (.str (pickK (m/10/40))) kI)))=JS (.int p):=zg rfl (zg rfl (zg rfl k3));obtain x5:=yu (F:=⟨b,JT,JT,d⟩) (x:=28) (v:=W9 (D.on 7) m p) (x_ (zp (yh (em g5 l4.marks k4) yw (qy (j:=10) (by decide))) (zp (zx (x:=0) (zg rfl (zg rfl (zg rfl s3)))) (zp (zx (x:=10) (zg rfl (zg rfl (zg rfl u3)))) (zp (zx (x:=8) (zg rfl (zg rfl yz))) (zp (zx (x:=26) (zg rfl yz)) (zp (zx (x:=14) yz) (zp (zx (x:=12) k4) zf))))))) rfl);exact⟨_,wI,λh=>zr x1 (zr x2 (zr x3 (zr x4 (zr x5 h)))),g5,l4.st rfl,yz,zg rfl k4⟩
end
noncomputable def qH(sm c:Bool)(p:Nat):List Nat:=match sm with|JQ=>[16,11]|JT=>[16,11,[10,12,15].getD (p%3) 0]++(if c then[17]else[])
theorem bF{D:Dt}{sm:Bool}{p:Nat}:∀j∈qH sm (D.on 7) p,∃x,yr x=JS j/\(x∈vh\/x=7/\D.on 7=JQ):=by
 have base:∀j,j=16\/j=11\/j=10\/j=12\/j=15->∃x,yr x=JS j/\(x∈vh\/x=7/\D.on 7=JQ):=λj h=>by
  rcases h with rfl|rfl|rfl|rfl|rfl;.exact⟨6,rfl,.inl (by decide)⟩
  .exact⟨21,rfl,.inl (by decide)⟩
  .exact⟨20,rfl,.inl (by decide)⟩
  .exact⟨8,rfl,.inl (by decide)⟩
  .exact⟨5,rfl,.inl (by decide)⟩
 intro j hj;cases sm with
 |true=>
  rcases JJ.mp hj with e|h;.exact base j (.inl e)
  .exact base j (.inr (.inl (JP.mp h)))
 |false=>
  rcases I8.mp hj with h|h
  .rcases JJ.mp h with e|h;.exact base j (.inl e)
   rcases JJ.mp h with e|h;.exact base j (.inr (.inl e))
   obtain this:∀i<3,[10,12,15].getD i 0=10\/[10,12,15].getD i 0=12\/[10,12,15].getD i 0=15:=by decide
   obtain h':=this (p%3) (Hv _ (by decide));rw[<-JP.mp h]at h';exact base j (.inr (.inr h'))
  .cases hc:D.on 7 with|true=>rw[hc]at h;rw[JP.mp h];exact⟨7,rfl,.inr ⟨rfl,rfl⟩⟩|false=>rw[hc]at h;exact nomatch h
structure AL(w kn m ml:Nat)(sm:Bool)(p al:Nat)(L:Loc):Prop where
 l:LL w kn m ml sm L
 k:lk 12 L=some (.int p)
 a:lk 40 L=some (.ref al)
section
variable{b:Bc}{d lim:Nat}{q:Bool}{J yx zt zy zv:St}{T T':Tb}{Q:Mt}{i g n x j way num ml m p w kn mm al:Nat}{k k' s:List Nat}{L:Loc}{D:Dt}{sm:Bool}{ms:List Nat}
theorem AL.st{y:Nat}{v:V}(h:AL w kn mm ml sm p al L)(h1:WT y=JT)(h2:JG 12 y=JT)(h3:JG 40 y=JT):AL w kn mm ml sm p al (st y v L):=⟨h.l.st h1,zg h2 h.k,zg h3 h.a⟩
theorem O5(R:RI J D)(Z:MI Q lim J D.T)(xC:lim+2=D.w)(ho:yr x=JS j)(hx:x∈vh\/x=7/\D.on 7=JQ)(h:AL D.w D.kn Q.m ml sm p al L)(h1:lk 5 L=JS (zU j))(ws:List Nat):X2 λL' zv=>C3 (FL ⟨b,JT,JT,d+24⟩ [48] (.str ws) (ws.map λc=>V.str [c]) (.cons (.cond (.not (.call (.zu 75) (.cons (.loc 1) (.cons (.sub (.loc 9) (.wX (.loc 5))) (.cons (.loc 7) (.cons (.loc 5) (.cons (.loc 48) .nil))))))) (.cons (.ret (.bool JT)) .nil) .nil) .nil) (ws.map λc=>V.str [c]).length L J (.ok .next L' zv)) (Ask D J zv) (AL D.w D.kn Q.m ml sm p al L'):=by obtain jA:=nS R.s hx;obtain⟨L',zv,k,k1,k2,_⟩:=FL.all (F:=⟨b,JT,JT,d+24⟩) (xs:=[48]) (t:=.str ws) (b:=(.cons (.cond (.not (.call (.zu 75) (.cons (.loc 1) (.cons (.sub (.loc 9) (.wX (.loc 5))) (.cons (.loc 7) (.cons (.loc 5) (.cons (.loc 48) .nil))))))) (.cons (.ret (.bool JT)) .nil) .nil) .nil)) (l:=ws.map λc=>V.str [c]) (zs:=ws) (g:=λzz c=>.str [c]) (JN _) (λp z h=>by rewrite[JF];rw[h];rfl) (P:=λzz zz L zv=>C3 (Ask D J zv) (AL D.w D.kn Q.m ml sm p al L) (lk 5 L=JS (zU j))) (λzz zz zz zz zz=>rfl) (by rintro r c ys L zv hp hd⟨a,l,l1⟩;obtain⟨yU,cc,a1⟩:=Me (b:=b) (d:=d) (k:=[c]) a.r (Z.ask a.k) xC jA ho;have l2:=l.st (y:=48) (v:=.str [c]) rfl rfl rfl;have eO:lk 5 (st 48 (.str [c]) L)=JS (zU j):=zg rfl l1;exact⟨_,_,yU,rfl,zr (zO (vM (y6 (yp rfl) (zp (zx l2.l.ou) (zp (se (q:=JT) a.r hx l2.l.known (ff (y:=5) ho eO)) (zp (zx l2.l.model) (zp (zx eO) (zp (zx yz) zf))))) cc)) zj) zj,a.tr a1,l2,eO⟩) (L:=L) (J:=J) ⟨⟨R,.re⟩,h,h1⟩;exact⟨L',zv,k,k1,k2⟩
theorem O9(R:RI J D)(Z:MI Q lim J D.T)(xC:lim+2=D.w)(l:LL D.w D.kn Q.m ml sm L)(hk:lk 12 L=JS (.int p)):X2 λL' zv=>C3 (XB ⟨b,JT,JT,d+24⟩ L (.cons (.asg 40 (.ite (.loc 37) (.lst (.cons (.str [60,66,62]) (.cons (.str [60,99,62]) .nil))) (.bin .add (.lst (.cons (.str [60,66,62]) (.cons (.str [60,99,62]) (.cons (.sub (.lst (.cons (.str [60,97,62]) (.cons (.str [60,77,62]) (.cons (.str [60,65,62]) .nil)))) (.bin .mod (.loc 12) (.int 3))) .nil)))) (.bin .mul (.lst (.cons (.str [60,67,62]) .nil)) (.call (.zu 45) (.cons (.cmp .yQ (.str [67]) (.loc 9)) .nil)))))) (.cons (.for [5] .plain (.loc 40) (.cons (.for [48] .plain (.ite (.loc 37) (.str [97]) (.str [97,98,99])) (.cons (.cond (.not (.call (.zu 75) (.cons (.loc 1) (.cons (.sub (.loc 9) (.wX (.loc 5))) (.cons (.loc 7) (.cons (.loc 5) (.cons (.loc 48) .nil))))))) (.cons (.ret (.bool JT)) .nil) .nil) .nil)) .nil)) (.cons (.cond (.and (.cons (.not (.loc 37)) (.cons (.not (.call (.zu 103) (.cons (.loc 1) (.cons (.loc 9) (.cons (.loc 7) (.cons (.sub (.loc 40) (.bin .mod (.loc 12) (.int 3))) .nil)))))) .nil))) (.cons (.ret (.bool JT)) .nil) .nil) .nil))) J (.ok .next L' zv)) (Ask D J zv) (LL D.w D.kn Q.m ml sm L'):=by
 obtain⟨al,zv,e7,g7,ha⟩:X2 λal zv=>C3 (E ⟨b,JT,JT,d+24⟩ L (.ite (.loc 37) (.lst (.cons (.str [60,66,62]) (.cons (.str [60,99,62]) .nil))) (.bin .add (.lst (.cons (.str [60,66,62]) (.cons (.str [60,99,62]) (.cons (.sub (.lst (.cons (.str [60,97,62]) (.cons (.str [60,77,62]) (.cons (.str [60,65,62]) .nil)))) (.bin .mod (.loc 12) (.int 3))) .nil)))) (.bin .mul (.lst (.cons (.str [60,67,62]) .nil)) (.call (.zu 45) (.cons (.cmp .yQ (.str [67]) (.loc 9)) .nil))))) J (.ok (.ref al) zv)) (Gr J zv) (zv[al]?=JS (.list (za (qH sm (D.on 7) p)))):=by
  cases sm with
  |true=>exact⟨_,_,wq (zx l.small) (y5 (zp zV (zp zV zf)) rfl),Gr.push _,zA⟩
  |false=>
   obtain g1:=Gr.push (J:=J) (.list (za [10,12,15]));obtain e1:E ⟨b,JT,JT,d+24⟩ L (.sub (.lst (.cons (.str [60,97,62]) (.cons (.str [60,77,62]) (.cons (.str [60,65,62]) .nil)))) (.bin .mod (.loc 12) (.int 3))) J (.ok (zU ([10,12,15].getD (p%3) 0)) (J++[.list (za [10,12,15])])):=yL (y5 (zp zV (zp zV (zp zV zf))) rfl) (yh (zx hk) yw (qy (by decide))) (tA (j:=p%3) (zA (o:=.list (za [10,12,15]))) (by unfold za;rewrite[JF];rw[getD_at (d:=0) (show p%3<[10,12,15].length from Hv _ (by decide))];rfl) (Hm (Hv _ (by decide)) (by decide)));obtain ea:E ⟨b,JT,JT,d+24⟩ L (.lst (.cons (.str [60,66,62]) (.cons (.str [60,99,62]) (.cons (.sub (.lst (.cons (.str [60,97,62]) (.cons (.str [60,77,62]) (.cons (.str [60,65,62]) .nil)))) (.bin .mod (.loc 12) (.int 3))) .nil)))) J (.ok (.ref (J++[O.list (za [10,12,15])]).length) ((J++[.list (za [10,12,15])])++[.list (za [16,11,[10,12,15].getD (p%3) 0])])):=y5 (zp zV (zp zV (zp e1 zf))) rfl;obtain g2:=g1.tr (Gr.push (.list (za [16,11,[10,12,15].getD (p%3) 0])));obtain et:=Yk (b:=b) (d:=d+24) (L:=L) (l:=[17]) (R.gr g2) (zx (x:=9) l.known) (by decide) (m:=(.lst (.cons (.str [60,67,62]) .nil))) (y5 (zp zV zf) rfl);generalize(J++[O.list (za [10,12,15])])=zv at ea et g2;obtain h1:(((zv++[O.list (za [16,11,[10,12,15].getD (p%3) 0])])++[O.list (za [17])])++[O.list (za (if D.on 7 then[17]else[]))])[zv.length]?=JS (.list (za [16,11,[10,12,15].getD (p%3) 0])):=(Gr.push _).get ((Gr.push _).get zA);obtain h2:(((zv++[O.list (za [16,11,[10,12,15].getD (p%3) 0])])++[O.list (za [17])])++[O.list (za (if D.on 7 then[17]else[]))])[(zv++[O.list (za [16,11,[10,12,15].getD (p%3) 0])]).length+1]?=JS (.list (za (if D.on 7 then[17]else[]))):=by obtain this:=zA (J:=(zv++[O.list (za [16,11,[10,12,15].getD (p%3) 0])])++[O.list (za [17])]) (o:=.list (za (if D.on 7 then[17]else[])));rwa [JO (bs:=[O.list (za [17])])]at this
   obtain eb:=yh ea et (mM h1 h2 (by cases D.on 7<;>rfl));rw[<-rR]at eb;exact⟨_,_,wt (zx l.small) eb,(g2.tr ((Gr.push _).tr (Gr.push _))).tr (Gr.push _),zA⟩
 have a7:=Ask.of R g7;have bI:AL D.w D.kn Q.m ml sm p al (st 40 (.ref al) L):=⟨l.st rfl,zg rfl hk,yz⟩;have len:(qH sm (D.on 7) p).length<=10:=by cases sm with|true=>exact(by decide:2<=10)|false=>show([16,11,_]++(if D.on 7 then[17]else[])).length<=10;rw[JO];split;exact(show 3+1<=10 by decide);exact(show 3+0<=10 by decide)
 obtain⟨zN,yU,k,a1,l1⟩:=FL.all (F:=⟨b,JT,JT,d+24⟩) (xs:=[5]) (t:=.list al) (b:=(.cons (.for [48] .plain (.ite (.loc 37) (.str [97]) (.str [97,98,99])) (.cons (.cond (.not (.call (.zu 75) (.cons (.loc 1) (.cons (.sub (.loc 9) (.wX (.loc 5))) (.cons (.loc 7) (.cons (.loc 5) (.cons (.loc 48) .nil))))))) (.cons (.ret (.bool JT)) .nil) .nil) .nil)) .nil)) (l:=za (qH sm (D.on 7) p)) (zs:=qH sm (D.on 7) p) (g:=λzz x=>zU x) (JN _) (λp z h=>by unfold za;rewrite[JF];rw[h];rfl) (P:=λzz zz L zk=>Ask D zv zk/\AL D.w D.kn Q.m ml sm p al L) (λzz zz zz zz h=>h.1.k.get ha) (by
  rintro r j ys L zk hp hd⟨a,l⟩;obtain⟨x,ho,hx⟩:=bF j (J5 hp);obtain l2:=l.st (y:=5) (v:=zU j) rfl rfl rfl;have e8:E ⟨b,JT,JT,d+24⟩ (st 5 (zU j) L) (.ite (.loc 37) (.str [97]) (.str [97,98,99])) zk (.ok (.str (if sm then[97]else[97,98,99])) zk):=by cases sm with|true=>exact wq (zx l2.l.small) zV|false=>exact wt (zx l2.l.small) zV
  obtain⟨L',xl,k,a2,l3⟩:=O5 (b:=b) (d:=d) a.r (Z.ask (a7.k.tr a.k)) xC ho hx l2 yz (if sm then[97]else[97,98,99]);exact⟨_,L',xl,rfl,zr (xe (t:=.str (if sm then[97]else[97,98,99])) rfl e8 rfl rfl k) zj,a.tr a2,l3⟩) (L:=st 40 (.ref al) L) (J:=zv) ⟨⟨a7.r,.re⟩,bI⟩;obtain aa:=a7.tr a1;obtain x7:=yu (x:=40) e7;have x8:=xe (t:=.list al) rfl (zx bI.a) ha rfl k;cases sm with|true=>exact⟨zN,yU,zr x7 (zr x8 (zr (zO (tR (vM (zx l1.l.small))) zj) zj)),aa,l1.l⟩|false=>have hj:(qH JT (D.on 7) p)[p%3]?=JS ((qH JT (D.on 7) p).getD (p%3) 0):=getD_at (by show p%3<([16,11,_]++_).length;rw[JO];obtain this:=Hv p (show 0<3 by decide);exact IJ this (Hy _ _));obtain⟨x,ho,hx⟩:=bF _ (J5 hj);obtain⟨xl,c,a2⟩:=MW (b:=b) (d:=d+2) aa.r (Z.ask aa.k) xC hx ho;obtain ea:=yL (F:=⟨b,JT,JT,d+24⟩) (zx l1.a) (yh (zx l1.k) (yw (i:=3)) (qy (by decide))) (tA (j:=p%3) (a1.k.get ha) (by unfold za;rewrite[JF];rw[hj];rfl) (Hm (Hv _ (by decide)) (by decide)));exact⟨zN,xl,zr x7 (zr x8 (zr (zO (w5 (vM (zx l1.l.small)) (uh (vM (y6 (yp rfl) (zp (zx l1.l.ou) (zp (zx l1.l.known) (zp (zx l1.l.model) (zp ea zf)))) c)))) zj) zj)),aa.tr a2,l1.l⟩
end
theorem Rf{T:Tb}{way i g num e:Nat}{k k' s:List Nat}:plainS (vN T way i g k k' s num e).1=JQ:=by
 obtain mx:plainS (x9 T i g)=JQ:=by
  unfold x9;split;.rfl
  .split<;>rfl
 unfold vN;split;.rfl
 split;.exact mx
 split;.cases(y_ k (T i).ms).bind live<;>rfl
 .cases vV T i k<;>rfl
theorem S7{F:Fr}{J:St}{s:List Nat}(h:plainS s=JQ):xg F .ne (.str s) (.str s) J JT:=by obtain this:=qF (F:=F) (J:=J) h h;rw[xj.mpr rfl]at this;exact this
theorem Mn{D:Dt}(m:Nat):kF D (vg (D.on 7) m):=by
 obtain⟨_,h1,h2,_⟩:=cA (D.on 7) m;generalize vg (D.on 7) m=i at*;have own:∀{x i:Nat},yr x=JS i->x∈vh->kF D i:=λh hx=>.inl ⟨_,h,.inl hx⟩;have WK:i=17\/i=7->D.on 7=JQ:=λh=>by cases q:D.on 7 with|true=>rfl|false=>obtain this:=h2 q;lia
 unfold targets at h1;rcases JJ.mp h1 with rfl|h1;exact .inr ⟨by decide,.inl (by decide)⟩;rcases JJ.mp h1 with rfl|h1;exact .inr ⟨by decide,.inl (by decide)⟩;rcases JJ.mp h1 with rfl|h1;exact .inr ⟨by decide,.inr ⟨rfl,WK (.inr rfl)⟩⟩;rcases JJ.mp h1 with rfl|h1;exact .inr ⟨by decide,.inl (by decide)⟩;rcases JJ.mp h1 with rfl|h1;exact own (x:=20) rfl (by decide);rcases JJ.mp h1 with rfl|h1;exact own (x:=21) rfl (by decide);rcases JJ.mp h1 with rfl|h1;exact own (x:=8) rfl (by decide);rcases JJ.mp h1 with rfl|h1;exact own (x:=5) rfl (by decide);rcases JJ.mp h1 with rfl|h1;exact own (x:=6) rfl (by decide);rw[JP.mp h1];exact .inl ⟨7,rfl,.inr ⟨rfl,WK (.inl (JP.mp h1))⟩⟩
section
variable{b:Bc}{d lim:Nat}{q:Bool}{J yx zt zy zv:St}{T T':Tb}{Q:Mt}{i g n x j way num ml m p w kn mm al:Nat}{k k' s:List Nat}{L:Loc}{D:Dt}{sm:Bool}{ms:List Nat}
structure LS(Q:Mt)(lim w kn:Nat)(c:Bool)(J:St)(D:Dt):Prop where
 r:RI J D
 z:MI Q lim J D.T
 l:lim+2=w
 w:D.w=w
 kn:D.kn=kn
 c:D.on 7=c
theorem X9(S:LS Q lim w kn (D.on 7) J D)(hm:Q.xs=yA ms)(sW:Q.x=ml)(l:LL w kn Q.m ml sm L)(hk:lk 12 L=JS (.int p))(hp:ms[p]?=JS m)(lT:p<10):X3 λL' zv D'=>C3 (XB ⟨b,JT,JT,d+24⟩ L (.cons (.asg 15 (.bin .floordiv (.sub (.loc 25) (.loc 12)) (.int 10))) (.cons (.asg 29 (.bin .add (.lst (.cons (.str [60,65,62]) (.cons (.str [60,97,62]) (.cons (.str [60,66,62]) (.cons (.str [60,77,62]) (.cons (.str [65]) (.cons (.str [66]) (.cons (.str [60,99,62]) (.cons (.str [77]) .nil))))))))) (.bin .mul (.lst (.cons (.str [60,67,62]) (.cons (.str [67]) .nil))) (.call (.zu 45) (.cons (.cmp .yQ (.str [67]) (.loc 9)) .nil))))) (.cons (.yD [0,10] (.tup (.cons (.sub (.loc 29) (.bin .mod (.loc 15) (.call (.zu 31) (.cons (.loc 29) .nil)))) (.cons (.sub (.lst (.cons (.str [77]) (.cons (.str [78]) (.cons (.str [78]) (.cons (.str [65]) .nil))))) (.bin .mod (.bin .floordiv (.loc 15) (.int 10)) (.int 4))) .nil)))) (.cons (.yD [8,26,14] (.tup (.cons (.sub (.str [97,98,99]) (.bin .mod (.bin .floordiv (.loc 15) (.int 40)) (.int 3))) (.cons (.sub (.str [97,98,99]) (.bin .mod (.bin .floordiv (.loc 15) (.int 120)) (.int 3))) (.cons (.sub (.lst (.cons (.str [112,117,98,108,105,99]) (.cons (.str [112,114,105,118,97,116,101]) (.cons (.str [112,114,111,116,101,99,116,101,100]) .nil)))) (.bin .mod (.bin .floordiv (.loc 15) (.int 360)) (.int 3))) .nil))))) (.cons (.asg 28 (.tup (.cons (.bin .mod (.sub (.loc 25) (.loc 12)) (.int 10)) (.cons (.loc 0) (.cons (.loc 10) (.cons (.loc 8) (.cons (.loc 26) (.cons (.loc 14) (.cons (.loc 12) .nil))))))))) (.cons (.cond (.cmp .ne (.call (.zu 102) (.cons (.loc 1) (.cons (.loc 9) (.cons (.loc 28) .nil)))) (.call (.zu 101) (.cons (.loc 7) (.cons (.loc 28) .nil)))) (.cons (.ret (.bool JT)) .nil) .nil) (.cons (.asg 40 (.ite (.loc 37) (.lst (.cons (.str [60,66,62]) (.cons (.str [60,99,62]) .nil))) (.bin .add (.lst (.cons (.str [60,66,62]) (.cons (.str [60,99,62]) (.cons (.sub (.lst (.cons (.str [60,97,62]) (.cons (.str [60,77,62]) (.cons (.str [60,65,62]) .nil)))) (.bin .mod (.loc 12) (.int 3))) .nil)))) (.bin .mul (.lst (.cons (.str [60,67,62]) .nil)) (.call (.zu 45) (.cons (.cmp .yQ (.str [67]) (.loc 9)) .nil)))))) (.cons (.for [5] .plain (.loc 40) (.cons (.for [48] .plain (.ite (.loc 37) (.str [97]) (.str [97,98,99])) (.cons (.cond (.not (.call (.zu 75) (.cons (.loc 1) (.cons (.sub (.loc 9) (.wX (.loc 5))) (.cons (.loc 7) (.cons (.loc 5) (.cons (.loc 48) .nil))))))) (.cons (.ret (.bool JT)) .nil) .nil) .nil)) .nil)) (.cons (.cond (.and (.cons (.not (.loc 37)) (.cons (.not (.call (.zu 103) (.cons (.loc 1) (.cons (.loc 9) (.cons (.loc 7) (.cons (.sub (.loc 40) (.bin .mod (.loc 12) (.int 3))) .nil)))))) .nil))) (.cons (.ret (.bool JT)) .nil) .nil) .nil))))))))) J (.ok .next L' zv)) (LS Q lim w kn (D.on 7) zv D') (LL w kn Q.m ml sm L'):=by obtain⟨R,Z,hl,rfl,rfl,_⟩:=S;subst sW;obtain⟨zN,yU,hx,g1,l1,hd,eW⟩:=O7 (b:=b) (d:=d+24) R l hk (by rewrite[Z.x];rw[hm]) hp lT;obtain R1:=R.gr g1;obtain Z1:=Z.gr g1;obtain⟨_,ht,_⟩:=cA (D.on 7) m;obtain⟨e,xl,c1,D2,R2,e1,e2,e3,e4,lo⟩:=MT (b:=b) (d:=d) R1 (Mn m) ht (WB m) (kh (m/10/40)).1 (kh (m/10/120)).1 (ct (m/10/360)).1 lT (Hv m (by decide:0<10));obtain Z2:=Z1.lo hl lo;obtain⟨num,main,hw,_⟩:=R2.wo;obtain⟨wI,c2,Z3,mu⟩:=MU (b:=b) (d:=d+20) (way:=m%10) Z2 (by obtain this:=y0 hw;lia) ht (WB m) (kh (m/10/40)).1 (kh (m/10/120)).1 (ct (m/10/360)).1 lT e;obtain R3:=R2.mu (hl.trans e1.symm) mu;rw[<-e3]at Z3;obtain x6:=zO (F:=⟨b,JT,JT,d+24⟩) (L:=zN) (a:=(.cons (.ret (.bool JT)) .nil)) (zZ (xq (g:=102) (x:=.loc 1) (y:=.loc 9) (z:=.loc 28) rfl (zx l1.ou) (zx l1.known) (zx hd) c1) (yY (g:=101) (x:=.loc 7) (y:=.loc 28) rfl (zx l1.model) (zx hd) c2) (S7 Rf)) (zj (F:=⟨b,JT,JT,d+24⟩) (L:=zN));rw[<-e1,<-e2]at l1;obtain⟨L',wR,k,a,l4⟩:=O9 (b:=b) (d:=d) R3 Z3 (hl.trans e1.symm) l1 eW;rw[e1,e2]at l4;exact⟨L',wR,D2,hx (zr x6 k),⟨a.r,Z3.ask a.k,hl,e1,e2,e4⟩,l4⟩
theorem O6(S:LS Q lim w kn (decide (ms.length/2<p)) J D)(hm:Q.xs=yA ms)(sW:Q.x=ml)(l:LL w kn Q.m ml sm L)(hk:lk 12 L=JS (.int p))(hp:ms[p]?=JS m)(hl:ms.length<=7):X3 λL' zv D'=>C3 (XB ⟨b,JT,JT,d+24⟩ L (.cons (.cond (.cmp .eq (.loc 12) (.bin .floordiv (.call (.zu 31) (.cons (.loc 25) .nil)) (.int 2))) (.cons (.y7 (.loc 9) (.str [67]) (.zl (.loc 1) 55 (.cons (.str [67]) (.cons (.bool JQ) (.cons (.sub (.loc 9) (.str [65])) .nil))))) .nil) .nil) (.cons (.asg 15 (.bin .floordiv (.sub (.loc 25) (.loc 12)) (.int 10))) (.cons (.asg 29 (.bin .add (.lst (.cons (.str [60,65,62]) (.cons (.str [60,97,62]) (.cons (.str [60,66,62]) (.cons (.str [60,77,62]) (.cons (.str [65]) (.cons (.str [66]) (.cons (.str [60,99,62]) (.cons (.str [77]) .nil))))))))) (.bin .mul (.lst (.cons (.str [60,67,62]) (.cons (.str [67]) .nil))) (.call (.zu 45) (.cons (.cmp .yQ (.str [67]) (.loc 9)) .nil))))) (.cons (.yD [0,10] (.tup (.cons (.sub (.loc 29) (.bin .mod (.loc 15) (.call (.zu 31) (.cons (.loc 29) .nil)))) (.cons (.sub (.lst (.cons (.str [77]) (.cons (.str [78]) (.cons (.str [78]) (.cons (.str [65]) .nil))))) (.bin .mod (.bin .floordiv (.loc 15) (.int 10)) (.int 4))) .nil)))) (.cons (.yD [8,26,14] (.tup (.cons (.sub (.str [97,98,99]) (.bin .mod (.bin .floordiv (.loc 15) (.int 40)) (.int 3))) (.cons (.sub (.str [97,98,99]) (.bin .mod (.bin .floordiv (.loc 15) (.int 120)) (.int 3))) (.cons (.sub (.lst (.cons (.str [112,117,98,108,105,99]) (.cons (.str [112,114,105,118,97,116,101]) (.cons (.str [112,114,111,116,101,99,116,101,100]) .nil)))) (.bin .mod (.bin .floordiv (.loc 15) (.int 360)) (.int 3))) .nil))))) (.cons (.asg 28 (.tup (.cons (.bin .mod (.sub (.loc 25) (.loc 12)) (.int 10)) (.cons (.loc 0) (.cons (.loc 10) (.cons (.loc 8) (.cons (.loc 26) (.cons (.loc 14) (.cons (.loc 12) .nil))))))))) (.cons (.cond (.cmp .ne (.call (.zu 102) (.cons (.loc 1) (.cons (.loc 9) (.cons (.loc 28) .nil)))) (.call (.zu 101) (.cons (.loc 7) (.cons (.loc 28) .nil)))) (.cons (.ret (.bool JT)) .nil) .nil) (.cons (.asg 40 (.ite (.loc 37) (.lst (.cons (.str [60,66,62]) (.cons (.str [60,99,62]) .nil))) (.bin .add (.lst (.cons (.str [60,66,62]) (.cons (.str [60,99,62]) (.cons (.sub (.lst (.cons (.str [60,97,62]) (.cons (.str [60,77,62]) (.cons (.str [60,65,62]) .nil)))) (.bin .mod (.loc 12) (.int 3))) .nil)))) (.bin .mul (.lst (.cons (.str [60,67,62]) .nil)) (.call (.zu 45) (.cons (.cmp .yQ (.str [67]) (.loc 9)) .nil)))))) (.cons (.for [5] .plain (.loc 40) (.cons (.for [48] .plain (.ite (.loc 37) (.str [97]) (.str [97,98,99])) (.cons (.cond (.not (.call (.zu 75) (.cons (.loc 1) (.cons (.sub (.loc 9) (.wX (.loc 5))) (.cons (.loc 7) (.cons (.loc 5) (.cons (.loc 48) .nil))))))) (.cons (.ret (.bool JT)) .nil) .nil) .nil)) .nil)) (.cons (.cond (.and (.cons (.not (.loc 37)) (.cons (.not (.call (.zu 103) (.cons (.loc 1) (.cons (.loc 9) (.cons (.loc 7) (.cons (.sub (.loc 40) (.bin .mod (.loc 12) (.int 3))) .nil)))))) .nil))) (.cons (.ret (.bool JT)) .nil) .nil) .nil)))))))))) J (.ok .next L' zv)) (LS Q lim w kn (decide (ms.length/2<p+1)) zv D') (LL w kn Q.m ml sm L'):=by
 obtain yN:=(J9.mp hp).1;obtain hx:=S.z.x;rw[hm,sW]at hx;obtain e0:=zZ (F:=⟨b,JT,JT,d+24⟩) (L:=L) (zx hk) (yh (yC (g:=31) (x:=.loc 25) rfl (zx l.marks) (pj hx (xN (by unfold yA;rw[JN];lia)))) (yw (i:=2)) (oP (by decide) (by decide))) rj;have e0:E ⟨b,JT,JT,d+24⟩ L (.cmp .eq (.loc 12) (.bin .floordiv (.call (.zu 31) (.cons (.loc 25) .nil)) (.int 2))) J (.ok (.bool (p==ms.length/2)) J):=by rw[show(yA ms).length=ms.length from JN _]at e0;rw[<-oF];exact e0
 obtain⟨R,Z,xC,hw,jG,hc⟩:=S;by_cases q:p=ms.length/2
 .rw[beq_iff_eq.mpr q]at e0;obtain off:D.on 7=JT:=by rw[hc];exact decide_eq_false (by lia)
  obtain rO:decide (ms.length/2<p+1)=JQ:=decide_eq_true (by lia);rw[<-hw,<-jG]at l;obtain⟨D1,z8,x1,R1,e1,e2,e3,e4,lo⟩:=KR (b:=b) (d:=d+20) R off l.ou l.known;rw[hw,jG]at l;obtain⟨L',zv,D',k,S',l'⟩:=X9 (b:=b) (d:=d) ⟨R1,by rw[e3];exact Z.lo (xC.trans hw.symm) lo,xC,e1.trans hw,e2.trans jG,rfl⟩ hm sW l hk hp (by lia);rw[e4]at S';exact⟨L',zv,D',zr (ye e0 (zr x1 zj)) k,by rw[rO];exact S',l'⟩
 .rw[beq_false_of_ne q]at e0;obtain⟨L',zv,D',k,S',l'⟩:=X9 (b:=b) (d:=d) ⟨R,Z,xC,hw,jG,rfl⟩ hm sW l hk hp (by lia);rw[hc,show decide (ms.length/2<p)=decide (ms.length/2<p+1)from decide_eq_decide.mpr (by lia)]at S';exact⟨L',zv,D',zr (zO e0 zj) k,S',l'⟩
end
section
variable{b:Bc}{d lim:Nat}{q:Bool}{J yx zt zy zv:St}{T T':Tb}{Q:Mt}{i g n x j way num ml m p w kn mm al:Nat}{k k' s:List Nat}{L:Loc}{D:Dt}{sm:Bool}{ms:List Nat}
theorem O8(S:LS Q lim w kn JT J D)(hm:Q.xs=yA ms)(sW:Q.x=ml)(l:LL w kn Q.m ml sm L)(hl:ms.length<=7):X3 λL' zv D'=>C7 (X1 ⟨b,JT,JT,d+24⟩ L (.for [12] .range (.call (.zu 31) (.cons (.loc 25) .nil)) (.cons (.cond (.cmp .eq (.loc 12) (.bin .floordiv (.call (.zu 31) (.cons (.loc 25) .nil)) (.int 2))) (.cons (.y7 (.loc 9) (.str [67]) (.zl (.loc 1) 55 (.cons (.str [67]) (.cons (.bool JQ) (.cons (.sub (.loc 9) (.str [65])) .nil))))) .nil) .nil) (.cons (.asg 15 (.bin .floordiv (.sub (.loc 25) (.loc 12)) (.int 10))) (.cons (.asg 29 (.bin .add (.lst (.cons (.str [60,65,62]) (.cons (.str [60,97,62]) (.cons (.str [60,66,62]) (.cons (.str [60,77,62]) (.cons (.str [65]) (.cons (.str [66]) (.cons (.str [60,99,62]) (.cons (.str [77]) .nil))))))))) (.bin .mul (.lst (.cons (.str [60,67,62]) (.cons (.str [67]) .nil))) (.call (.zu 45) (.cons (.cmp .yQ (.str [67]) (.loc 9)) .nil))))) (.cons (.yD [0,10] (.tup (.cons (.sub (.loc 29) (.bin .mod (.loc 15) (.call (.zu 31) (.cons (.loc 29) .nil)))) (.cons (.sub (.lst (.cons (.str [77]) (.cons (.str [78]) (.cons (.str [78]) (.cons (.str [65]) .nil))))) (.bin .mod (.bin .floordiv (.loc 15) (.int 10)) (.int 4))) .nil)))) (.cons (.yD [8,26,14] (.tup (.cons (.sub (.str [97,98,99]) (.bin .mod (.bin .floordiv (.loc 15) (.int 40)) (.int 3))) (.cons (.sub (.str [97,98,99]) (.bin .mod (.bin .floordiv (.loc 15) (.int 120)) (.int 3))) (.cons (.sub (.lst (.cons (.str [112,117,98,108,105,99]) (.cons (.str [112,114,105,118,97,116,101]) (.cons (.str [112,114,111,116,101,99,116,101,100]) .nil)))) (.bin .mod (.bin .floordiv (.loc 15) (.int 360)) (.int 3))) .nil))))) (.cons (.asg 28 (.tup (.cons (.bin .mod (.sub (.loc 25) (.loc 12)) (.int 10)) (.cons (.loc 0) (.cons (.loc 10) (.cons (.loc 8) (.cons (.loc 26) (.cons (.loc 14) (.cons (.loc 12) .nil))))))))) (.cons (.cond (.cmp .ne (.call (.zu 102) (.cons (.loc 1) (.cons (.loc 9) (.cons (.loc 28) .nil)))) (.call (.zu 101) (.cons (.loc 7) (.cons (.loc 28) .nil)))) (.cons (.ret (.bool JT)) .nil) .nil) (.cons (.asg 40 (.ite (.loc 37) (.lst (.cons (.str [60,66,62]) (.cons (.str [60,99,62]) .nil))) (.bin .add (.lst (.cons (.str [60,66,62]) (.cons (.str [60,99,62]) (.cons (.sub (.lst (.cons (.str [60,97,62]) (.cons (.str [60,77,62]) (.cons (.str [60,65,62]) .nil)))) (.bin .mod (.loc 12) (.int 3))) .nil)))) (.bin .mul (.lst (.cons (.str [60,67,62]) .nil)) (.call (.zu 45) (.cons (.cmp .yQ (.str [67]) (.loc 9)) .nil)))))) (.cons (.for [5] .plain (.loc 40) (.cons (.for [48] .plain (.ite (.loc 37) (.str [97]) (.str [97,98,99])) (.cons (.cond (.not (.call (.zu 75) (.cons (.loc 1) (.cons (.sub (.loc 9) (.wX (.loc 5))) (.cons (.loc 7) (.cons (.loc 5) (.cons (.loc 48) .nil))))))) (.cons (.ret (.bool JT)) .nil) .nil) .nil)) .nil)) (.cons (.cond (.and (.cons (.not (.loc 37)) (.cons (.not (.call (.zu 103) (.cons (.loc 1) (.cons (.loc 9) (.cons (.loc 7) (.cons (.sub (.loc 40) (.bin .mod (.loc 12) (.int 3))) .nil)))))) .nil))) (.cons (.ret (.bool JT)) .nil) .nil) .nil))))))))))) J (.ok .next L' zv)) (RI zv D') (MI Q lim zv D'.T) (lim+2=D'.w) (D'.w=w) (D'.kn=kn) (LL w kn Q.m ml sm L'):=by obtain hx:=S.z.x;rw[hm,sW]at hx;have VU:small ((ms.length:Nat):Int)=JQ:=Iw (by rw[GJ];exact J4 hl (by decide));obtain⟨L',zv,k,l',D',S'⟩:=FL.all (F:=⟨b,JT,JT,d+24⟩) (xs:=[12]) (t:=.range (ms.length:Nat)) (b:=(.cons (.cond (.cmp .eq (.loc 12) (.bin .floordiv (.call (.zu 31) (.cons (.loc 25) .nil)) (.int 2))) (.cons (.y7 (.loc 9) (.str [67]) (.zl (.loc 1) 55 (.cons (.str [67]) (.cons (.bool JQ) (.cons (.sub (.loc 9) (.str [65])) .nil))))) .nil) .nil) (.cons (.asg 15 (.bin .floordiv (.sub (.loc 25) (.loc 12)) (.int 10))) (.cons (.asg 29 (.bin .add (.lst (.cons (.str [60,65,62]) (.cons (.str [60,97,62]) (.cons (.str [60,66,62]) (.cons (.str [60,77,62]) (.cons (.str [65]) (.cons (.str [66]) (.cons (.str [60,99,62]) (.cons (.str [77]) .nil))))))))) (.bin .mul (.lst (.cons (.str [60,67,62]) (.cons (.str [67]) .nil))) (.call (.zu 45) (.cons (.cmp .yQ (.str [67]) (.loc 9)) .nil))))) (.cons (.yD [0,10] (.tup (.cons (.sub (.loc 29) (.bin .mod (.loc 15) (.call (.zu 31) (.cons (.loc 29) .nil)))) (.cons (.sub (.lst (.cons (.str [77]) (.cons (.str [78]) (.cons (.str [78]) (.cons (.str [65]) .nil))))) (.bin .mod (.bin .floordiv (.loc 15) (.int 10)) (.int 4))) .nil)))) (.cons (.yD [8,26,14] (.tup (.cons (.sub (.str [97,98,99]) (.bin .mod (.bin .floordiv (.loc 15) (.int 40)) (.int 3))) (.cons (.sub (.str [97,98,99]) (.bin .mod (.bin .floordiv (.loc 15) (.int 120)) (.int 3))) (.cons (.sub (.lst (.cons (.str [112,117,98,108,105,99]) (.cons (.str [112,114,105,118,97,116,101]) (.cons (.str [112,114,111,116,101,99,116,101,100]) .nil)))) (.bin .mod (.bin .floordiv (.loc 15) (.int 360)) (.int 3))) .nil))))) (.cons (.asg 28 (.tup (.cons (.bin .mod (.sub (.loc 25) (.loc 12)) (.int 10)) (.cons (.loc 0) (.cons (.loc 10) (.cons (.loc 8) (.cons (.loc 26) (.cons (.loc 14) (.cons (.loc 12) .nil))))))))) (.cons (.cond (.cmp .ne (.call (.zu 102) (.cons (.loc 1) (.cons (.loc 9) (.cons (.loc 28) .nil)))) (.call (.zu 101) (.cons (.loc 7) (.cons (.loc 28) .nil)))) (.cons (.ret (.bool JT)) .nil) .nil) (.cons (.asg 40 (.ite (.loc 37) (.lst (.cons (.str [60,66,62]) (.cons (.str [60,99,62]) .nil))) (.bin .add (.lst (.cons (.str [60,66,62]) (.cons (.str [60,99,62]) (.cons (.sub (.lst (.cons (.str [60,97,62]) (.cons (.str [60,77,62]) (.cons (.str [60,65,62]) .nil)))) (.bin .mod (.loc 12) (.int 3))) .nil)))) (.bin .mul (.lst (.cons (.str [60,67,62]) .nil)) (.call (.zu 45) (.cons (.cmp .yQ (.str [67]) (.loc 9)) .nil)))))) (.cons (.for [5] .plain (.loc 40) (.cons (.for [48] .plain (.ite (.loc 37) (.str [97]) (.str [97,98,99])) (.cons (.cond (.not (.call (.zu 75) (.cons (.loc 1) (.cons (.sub (.loc 9) (.wX (.loc 5))) (.cons (.loc 7) (.cons (.loc 5) (.cons (.loc 48) .nil))))))) (.cons (.ret (.bool JT)) .nil) .nil) .nil)) .nil)) (.cons (.cond (.and (.cons (.not (.loc 37)) (.cons (.not (.call (.zu 103) (.cons (.loc 1) (.cons (.loc 9) (.cons (.loc 7) (.cons (.sub (.loc 40) (.bin .mod (.loc 12) (.int 3))) .nil)))))) .nil))) (.cons (.ret (.bool JT)) .nil) .nil) .nil))))))))))) (l:=(IF ms.length).map λ(j:Nat)=>V.int j) (zs:=ms) (g:=λp zz=>.int p) (by rewrite[JN];rw[Hc]) (λp z h=>by obtain this:=(J9.mp h).1;rewrite[JF];rw[FI this];rfl) (P:=λp ys L zv=>LL w kn Q.m ml sm L/\∃D,LS Q lim w kn (decide (ms.length/2<p)) zv D) (λp ys L zv h=>⟨VU,by rw[HO]⟩) (by rintro p m ys L zv hp hd⟨l,D,S⟩;obtain⟨L',zk,D',k,S',l'⟩:=O6 (b:=b) (d:=d) S hm sW (l.st (x:=12) (v:=.int p) rfl) yz hp hl;exact⟨_,L',zk,rfl,k,l',D',S'⟩) (L:=L) (J:=J) ⟨l,D,by rw[show decide (ms.length/2<0)=JT from decide_eq_false (Nat.not_lt_zero _)];exact S⟩;obtain e:=yC (F:=⟨b,JT,JT,d+24⟩) (L:=L) (J:=J) (g:=31) (x:=.loc 25) rfl (zx l.marks) (pj hx (xN (by unfold yA;rw[JN];lia)));rw[show(yA ms).length=ms.length from JN _]at e;exact⟨L',zv,D',xe (t:=.range (ms.length:Nat)) rfl e ⟨VU,by rw[HO]⟩ rfl k,S'.r,S'.z,S'.l.trans S'.w.symm,S'.w,S'.kn,l'⟩
theorem Ws(w:WF T):(sL (vG (T i).ms)).all (lvl 3)=JQ:=Iz.mpr λv hv=>by obtain⟨a,ha,rfl⟩:=IG.mp hv;obtain⟨p,hp,rfl⟩:=IG.mp ha;exact(iq (w.ks i p (Hd.mp hp).1).1).2
theorem Yo{L:Loc}{e:M}{o:ry}{t:Bool}(R:RI J D)(Z:MI Q lim J D.T)(hi:i<18)(Pc:D.on i=JQ)(tj:yG i=.none)(l:LL w kn Q.m ml sm L)(hw:D.w=w){y:M}{zv:St}(a:∀(L:Loc),True)(he:E ⟨b,JT,JT,d+3⟩ L e yx (.ok (.ref (D.ad i)) J))(hy:∀{zv:St},E ⟨b,JT,JT,d+3⟩ L y zv (.ok (zU i) zv)):∃zv,C3 (E ⟨b,JT,JT,d+3⟩ L (.cmp .eq (.call (.zu 90) (.cons (.loc 1) (.cons e (.cons (.bool JT) .nil)))) (.call (.zu 92) (.cons (.sub (.sub (.loc 7) y) (.int 3)) .nil))) yx (.ok (.bool JQ) zv)) (E ⟨b,JT,JT,d+3⟩ L (.cmp .ne (.call (.zu 90) (.cons (.loc 1) (.cons e (.cons (.bool JT) .nil)))) (.call (.zu 92) (.cons (.sub (.sub (.loc 7) y) (.int 3)) .nil))) yx (.ok (.bool JT) zv)) (Gr J zv):=by subst hw;obtain⟨r,yU,c1,g1,h1⟩:=ML (b:=b) (d:=d) R Pc hi tj;have Z1:=Z.gr g1;obtain⟨r2,xl,c2,g2,h2⟩:=MS (b:=b) (d:=d+2) (Z1.d i hi) (Z.w.nd i) (J4 (Z.w.uH i) (by decide)) λp hp=>(Z.w.ks i p hp).2;obtain ea:=xq (F:=⟨b,JT,JT,d+3⟩) (L:=L) (g:=90) (x:=.loc 1) (z:=.bool JT) rfl (zx l.ou) he sR c1;obtain eb:=yC (F:=⟨b,JT,JT,d+3⟩) (L:=L) (g:=92) rfl (oG (q:=JT) Z1 hi l.model hy (yw (i:=((3:Nat):Int))) rfl (by decide)) c2;obtain cc:=mI (F:=⟨b,JT,JT,d+3⟩) (.inl (g2.get h1)) h2 (Ws Z.w) (Ws Z.w) (m4 _);exact⟨xl,zZ ea eb cc.1,zZ ea eb cc.2,g1.tr g2⟩
theorem O4(S:LS Q lim w kn JT J D)(hm:Q.xs=yA ms)(sW:Q.x=ml)(l:LL w kn Q.m ml sm L)(hl:ms.length<=7):X2 λL' zv=>XB ⟨b,JT,JT,d+24⟩ L (.cons (.for [12] .range (.call (.zu 31) (.cons (.loc 25) .nil)) (.cons (.cond (.cmp .eq (.loc 12) (.bin .floordiv (.call (.zu 31) (.cons (.loc 25) .nil)) (.int 2))) (.cons (.y7 (.loc 9) (.str [67]) (.zl (.loc 1) 55 (.cons (.str [67]) (.cons (.bool JQ) (.cons (.sub (.loc 9) (.str [65])) .nil))))) .nil) .nil) (.cons (.asg 15 (.bin .floordiv (.sub (.loc 25) (.loc 12)) (.int 10))) (.cons (.asg 29 (.bin .add (.lst (.cons (.str [60,65,62]) (.cons (.str [60,97,62]) (.cons (.str [60,66,62]) (.cons (.str [60,77,62]) (.cons (.str [65]) (.cons (.str [66]) (.cons (.str [60,99,62]) (.cons (.str [77]) .nil))))))))) (.bin .mul (.lst (.cons (.str [60,67,62]) (.cons (.str [67]) .nil))) (.call (.zu 45) (.cons (.cmp .yQ (.str [67]) (.loc 9)) .nil))))) (.cons (.yD [0,10] (.tup (.cons (.sub (.loc 29) (.bin .mod (.loc 15) (.call (.zu 31) (.cons (.loc 29) .nil)))) (.cons (.sub (.lst (.cons (.str [77]) (.cons (.str [78]) (.cons (.str [78]) (.cons (.str [65]) .nil))))) (.bin .mod (.bin .floordiv (.loc 15) (.int 10)) (.int 4))) .nil)))) (.cons (.yD [8,26,14] (.tup (.cons (.sub (.str [97,98,99]) (.bin .mod (.bin .floordiv (.loc 15) (.int 40)) (.int 3))) (.cons (.sub (.str [97,98,99]) (.bin .mod (.bin .floordiv (.loc 15) (.int 120)) (.int 3))) (.cons (.sub (.lst (.cons (.str [112,117,98,108,105,99]) (.cons (.str [112,114,105,118,97,116,101]) (.cons (.str [112,114,111,116,101,99,116,101,100]) .nil)))) (.bin .mod (.bin .floordiv (.loc 15) (.int 360)) (.int 3))) .nil))))) (.cons (.asg 28 (.tup (.cons (.bin .mod (.sub (.loc 25) (.loc 12)) (.int 10)) (.cons (.loc 0) (.cons (.loc 10) (.cons (.loc 8) (.cons (.loc 26) (.cons (.loc 14) (.cons (.loc 12) .nil))))))))) (.cons (.cond (.cmp .ne (.call (.zu 102) (.cons (.loc 1) (.cons (.loc 9) (.cons (.loc 28) .nil)))) (.call (.zu 101) (.cons (.loc 7) (.cons (.loc 28) .nil)))) (.cons (.ret (.bool JT)) .nil) .nil) (.cons (.asg 40 (.ite (.loc 37) (.lst (.cons (.str [60,66,62]) (.cons (.str [60,99,62]) .nil))) (.bin .add (.lst (.cons (.str [60,66,62]) (.cons (.str [60,99,62]) (.cons (.sub (.lst (.cons (.str [60,97,62]) (.cons (.str [60,77,62]) (.cons (.str [60,65,62]) .nil)))) (.bin .mod (.loc 12) (.int 3))) .nil)))) (.bin .mul (.lst (.cons (.str [60,67,62]) .nil)) (.call (.zu 45) (.cons (.cmp .yQ (.str [67]) (.loc 9)) .nil)))))) (.cons (.for [5] .plain (.loc 40) (.cons (.for [48] .plain (.ite (.loc 37) (.str [97]) (.str [97,98,99])) (.cons (.cond (.not (.call (.zu 75) (.cons (.loc 1) (.cons (.sub (.loc 9) (.wX (.loc 5))) (.cons (.loc 7) (.cons (.loc 5) (.cons (.loc 48) .nil))))))) (.cons (.ret (.bool JT)) .nil) .nil) .nil)) .nil)) (.cons (.cond (.and (.cons (.not (.loc 37)) (.cons (.not (.call (.zu 103) (.cons (.loc 1) (.cons (.loc 9) (.cons (.loc 7) (.cons (.sub (.loc 40) (.bin .mod (.loc 12) (.int 3))) .nil)))))) .nil))) (.cons (.ret (.bool JT)) .nil) .nil) .nil))))))))))) (.cons (.for [0] .plain (.lst (.cons (.str [65]) (.cons (.str [66]) (.cons (.str [77]) .nil)))) (.cons (.cond (.cmp .ne (.call (.zu 90) (.cons (.loc 1) (.cons (.sub (.loc 9) (.loc 0)) (.cons (.bool JT) .nil)))) (.call (.zu 92) (.cons (.sub (.sub (.loc 7) (.loc 0)) (.int 3)) .nil))) (.cons (.ret (.bool JT)) .nil) .nil) .nil)) (.cons (.ret (.cmp .eq (.call (.zu 90) (.cons (.loc 1) (.cons (.call (.zu 68) (.cons (.loc 1) (.cons (.sub (.loc 9) (.str [65])) .nil))) (.cons (.bool JT) .nil)))) (.call (.zu 92) (.cons (.sub (.sub (.loc 7) (.str [60,65,62])) (.int 3)) .nil)))) .nil))) J (.ok (.ret (.bool JQ)) L' zv):=by
 obtain⟨zN,yU,r8,x3,R,Z,xC,rfl,rfl,l1⟩:=O8 (b:=b) (d:=d) S hm sW l hl;obtain g0:=Gr.push (J:=yU) (.list (za [5,6,8]));obtain⟨yi,xl,k,g2,l2⟩:=FL.all (F:=⟨b,JT,JT,d+24⟩) (xs:=[0]) (t:=.list yU.length) (b:=(.cons (.cond (.cmp .ne (.call (.zu 90) (.cons (.loc 1) (.cons (.sub (.loc 9) (.loc 0)) (.cons (.bool JT) .nil)))) (.call (.zu 92) (.cons (.sub (.sub (.loc 7) (.loc 0)) (.int 3)) .nil))) (.cons (.ret (.bool JT)) .nil) .nil) .nil)) (l:=za [5,6,8]) (zs:=[5,6,8]) (g:=λzz x=>zU x) rfl (λp z h=>by unfold za;rewrite[JF];rw[h];rfl) (P:=λp ys L zv=>Gr (yU++[.list (za [5,6,8])]) zv/\LL r8.w r8.kn Q.m ml sm L) (λp ys L zv h=>h.1.get zA) (by
  rintro p y ys L zv hp hd⟨g,l⟩;have hy:y∈[5,6,8]:=J5 hp;have h1:y∈vh/\y<18:=by
   obtain this:∀y∈[5,6,8],y∈vh/\y<18:=by decide
   exact this y hy
  have h2:z6 y=tM y/\yG y=.none:=by
   have h0:y=5\/y=6\/y=8:=by rcases JJ.mp hy with e|h;exact .inl e;rcases JJ.mp h with e|h;exact .inr (.inl e);exact .inr (.inr (JP.mp h))
   rcases h0 with rfl|rfl|rfl<;>exact⟨rfl,rfl⟩
  have gg:=g0.tr g;have l':=l.st (x:=0) (v:=zU y) rfl;obtain Rg:=R.gr gg;obtain⟨zk,_,e2,g'⟩:=Yo (b:=b) (d:=d+21) (L:=st 0 (zU y) L) (o:=.eq) (t:=JQ) (zv:=zv) (y:=.loc 0) Rg (Z.gr gg) h1.2 (nS R.s (.inl h1.1)) h2.2 l' rfl (λzz=>trivial) (se (q:=JT) (e:=.loc 0) Rg (.inl h1.1) l'.known (by rw[<-h2.1];exact zx yz)) (zx yz);exact⟨_,_,zk,rfl,zr (zO e2 zj) zj,g.tr g',l'⟩) (L:=zN) (J:=yU++[.list (za [5,6,8])]) ⟨.rfl,l1⟩;obtain x4:=xe (F:=⟨b,JT,JT,d+24⟩) (L:=zN) (m:=(.lst (.cons (.str [65]) (.cons (.str [66]) (.cons (.str [77]) .nil))))) (t:=.list yU.length) rfl (y5 (zp zV (zp zV (zp zV zf))) rfl) zA rfl k;have gg:=g0.tr g2;have R2:=R.gr gg;obtain⟨K8,wI,c,R3,N4,lo,ex,_⟩:=cY (b:=b) (d:=d+12) (i:=5) (j:=15) R2 (R.s.om 5 (by decide) (by decide)) rfl;obtain⟨wR,e1,_,_⟩:=Yo (b:=b) (d:=d+21) (L:=yi) (o:=.eq) (t:=JQ) (zv:=wI) (y:=.str [60,65,62]) (i:=15) R3 (by rw[ex.T];exact(Z.gr gg).lo xC lo) (by decide) N4 rfl l2 ex.w (λzz=>trivial) (yY (g:=68) (x:=.loc 1) rfl (zx l2.ou) (se (q:=JT) (x:=5) R2 (.inl (by decide)) l2.known zV) c) zV;exact⟨yi,wR,zr x3 (zr x4 (zT (zL e1)))⟩
end
noncomputable def sg(l:List V):Option V:=HI l none λv r=>HI r (JS v) λzz zz=>none
noncomputable def xM(v:V):Option Nat:=V.casesOn v none (λzz=>none) (λzz=>none) (λzz=>none) (λzz=>none) JS (λzz=>none) (λzz=>none) (λzz=>none) λzz=>none
noncomputable def vStr(v:V):Option (List Nat):=V.casesOn v none (λzz=>none) (λzz=>none) JS (λzz=>none) (λzz=>none) (λzz=>none) (λzz=>none) (λzz=>none) λzz=>none
noncomputable def vBool(v:V):Option Bool:=V.casesOn v none JS (λzz=>none) (λzz=>none) (λzz=>none) (λzz=>none) (λzz=>none) (λzz=>none) (λzz=>none) λzz=>none
noncomputable def qP(v:V):Option (List V):=V.casesOn v none (λzz=>none) (λzz=>none) (λzz=>none) JS (λzz=>none) (λzz=>none) (λzz=>none) (λzz=>none) λzz=>none
noncomputable def vInt(v:V):Option Int:=V.casesOn v none (λzz=>none) JS (λzz=>none) (λzz=>none) (λzz=>none) (λzz=>none) (λzz=>none) (λzz=>none) λzz=>none
noncomputable def p9(o:Option O):Option (Nat×Loc):=o.bind λo=>O.casesOn o (λzz=>none) (λzz=>none) (λzz=>none) (λzz=>none) (λc fs=>JS (c,fs)) λzz zz zz=>none
noncomputable def uE(o:Option O):Option (List V):=o.bind λo=>O.casesOn o JS (λzz=>none) (λzz=>none) (λzz=>none) (λzz zz=>none) λzz zz zz=>none
noncomputable def wJ(o:Option O):Option (List (List Nat×V)):=o.bind λo=>O.casesOn o (λzz=>none) JS (λzz=>none) (λzz=>none) (λzz zz=>none) λzz zz zz=>none
noncomputable def iS(o:Option O):Option (List (List Nat×V)):=o.bind λo=>O.casesOn o (λzz=>none) (λzz=>none) JS (λzz=>none) (λzz zz=>none) λzz zz zz=>none
theorem zX{zi xJ:Type}{o:Option zi}{f:zi->Option xJ}{y:xJ}(h:o.bind f=JS y):∃x,o=JS x/\f x=JS y:=H2.mp h
theorem i7{l:List V}{v:V}(h:sg l=JS v):l=[v]:=by cases l with|nil=>cases h|cons a r=>cases r with|nil=>cases h;rfl|cons=>cases h
theorem vc{v:V}{n:Nat}(h:xM v=JS n):v=.ref n:=by cases v<;>cases h;rfl
theorem uu{v:V}{n:List Nat}(h:vStr v=JS n):v=.str n:=by cases v<;>cases h;rfl
theorem me{v:V}{n:Bool}(h:vBool v=JS n):v=.bool n:=by cases v<;>cases h;rfl
theorem kM{v:V}{n:List V}(h:qP v=JS n):v=.tup n:=by cases v<;>cases h;rfl
theorem kN{v:V}{n:Int}(h:vInt v=JS n):v=.int n:=by cases v<;>cases h;rfl
theorem l8{o:Option O}{p:Nat×Loc}(h:p9 o=JS p):o=JS (.inst p.1 p.2):=by obtain⟨x,rfl,h⟩:=zX h;cases x<;>cases h;rfl
theorem p8{o:Option O}{p:List V}(h:uE o=JS p):o=JS (.list p):=by obtain⟨x,rfl,h⟩:=zX h;cases x<;>cases h;rfl
theorem ub{o:Option O}{p:List (List Nat×V)}(h:wJ o=JS p):o=JS (.dict p):=by obtain⟨x,rfl,h⟩:=zX h;cases x<;>cases h;rfl
theorem dA{o:Option O}{p:List (List Nat×V)}(h:iS o=JS p):o=JS (.v7 p):=by obtain⟨x,rfl,h⟩:=zX h;cases x<;>cases h;rfl
noncomputable def hd2(l:List V):Option (V×V):=HI l none λv r=>(sg r).map λw=>(v,w)
theorem Y3{l:List V}{p:V×V}(h:hd2 l=JS p):l=[p.1,p.2]:=by cases l with|nil=>cases h|cons a r=>obtain⟨w,h1,rfl⟩:=JB.mp (show(sg r).map (λw=>(a,w))=JS p from h);rw[i7 h1]
noncomputable def pL(v:V):Option (List Nat×V):=(qP v).bind λl=>(hd2 l).bind λp=>(vStr p.1).map λk=>(k,p.2)
theorem dm{v:V}{p:List Nat×V}(h:pL v=JS p):v=il p:=by obtain⟨l,h1,h⟩:=zX h;obtain⟨q,h2,h⟩:=zX h;obtain⟨k,h3,rfl⟩:=JB.mp h;rewrite[kM h1];rewrite[Y3 h2];rw[uu h3];rfl
noncomputable def kvs(l:List V):Option (List (List Nat×V)):=List.rec (JS []) (λv zz ih=>(pL v).bind λp=>ih.map (p::.)) l
theorem OB:∀{l:List V}{ps:List (List Nat×V)},kvs l=JS ps->l=ps.map il:=by intro l;induction l with|nil=>intro ps h;cases h;rfl|cons v r ih=>intro ps h;obtain⟨p,h1,h⟩:=zX (show(pL v).bind (λp=>(kvs r).map (p::.))=JS ps from h);obtain⟨qs,h2,rfl⟩:=JB.mp h;rewrite[dm h1];rw[ih h2];rfl
noncomputable def iD(a b:V):Bool:=match vStr a with|JS s=>(match vStr b with|JS t=>zR s t|none=>JT)|none=>match xM a with|JS n=>(match xM b with|JS m=>JG n m|none=>JT)|none=>JT
theorem Vd{a b:V}(h:iD a b=JQ):a=b:=by
 unfold iD at h;cases h1:vStr a with
 |some s=>rw[h1]at h;cases h2:vStr b with|none=>rw[h2]at h;cases h|some t=>rw[h2]at h;rewrite[uu h1];rewrite[uu h2];rw[xj.mp h]
 |none=>rw[h1]at h;cases h2:xM a with|none=>rw[h2]at h;cases h|some n=>rw[h2]at h;cases h3:xM b with|none=>rw[h3]at h;cases h|some m=>rw[h3]at h;rewrite[vc h2];rewrite[vc h3];rw[JD h]
noncomputable def iC(a b:V):Bool:=match pL a with|JS p=>(match pL b with|JS q=>zR p.1 q.1&&iD p.2 q.2|none=>JT)|none=>iD a b
theorem Li{a b:V}(h:iC a b=JQ):a=b:=by unfold iC at h;cases h2:pL a with|none=>rw[h2]at h;exact Vd h|some p=>rw[h2]at h;cases h3:pL b with|none=>rw[h3]at h;cases h|some q=>rw[h3]at h;obtain⟨e1,e2⟩:=zh h;rewrite[dm h2];rw[dm h3];show V.tup [.str p.1,p.2]=V.tup [.str q.1,q.2];rewrite[Vd e2];rw[xj.mp e1]
noncomputable def qT:List V->List V->Bool|[],l=>l.isEmpty|a::r,l=>HI l JT λb t=>iC a b&&qT r t
theorem iB:∀{a b:List V},qT a b=JQ->a=b
|[],b,h=>by cases b with|nil=>rfl|cons=>cases h
|a::r,b,h=>by cases b with|nil=>cases h|cons b t=>obtain⟨h1,h2⟩:=zh (show(iC a b&&qT r t)=JQ from h);rewrite[Li h1];rw[iB h2]
noncomputable def iw(v:V)(J:St):Option (IT×List V):=match qP v with|JS vs=>JS (.tup vs,vs)|none=>(xM v).bind λn=>match uE J[n]? with|JS l=>JS (.list n,l)|none=>(wJ J[n]?).map λes=>(.dict n,es.map λp=>.str p.1)
theorem XT{v:V}{J:St}{p:IT×List V}(h:iw v J=JS p):C3 (v=p.1.v) (p.1.is p.2 J) (p.1.k=.plain):=by unfold iw at h;cases h1:qP v with|some vs=>rw[h1]at h;cases h;exact⟨kM h1,rfl,rfl⟩|none=>rw[h1]at h;obtain⟨n,h2,h⟩:=zX h;cases h3:uE J[n]? with|some l=>rw[h3]at h;cases h;exact⟨vc h2,p8 h3,rfl⟩|none=>rw[h3]at h;obtain⟨es,h4,rfl⟩:=JB.mp h;exact⟨vc h2,⟨_,ub h4,rfl⟩,rfl⟩
noncomputable def tO(t:IT)(l:List V)(J:St):Bool:=IT.casesOn t (λzz=>JQ) (λzz=>JT) (λn=>match uE J[n]? with|JS l'=>qT l' l|none=>JT) (λn=>match wJ J[n]? with|JS es=>qT (es.map λp=>.str p.1) l|none=>JT) (λzz=>JT) (λzz=>JT) λzz=>JT
theorem XU{t:IT}{l:List V}{J zy:St}(ht:t.is l J)(h:tO t l zy=JQ):t.is l zy:=by
 cases t with
 |tup=>exact ht
 |list n=>obtain h:(match uE zy[n]? with|JS l'=>qT l' l|none=>JT)=JQ:=h;cases h1:uE zy[n]? with|none=>rw[h1]at h;cases h|some l'=>rw[h1]at h;rw[<-iB h];exact p8 h1
 |dict n=>obtain h:(match wJ zy[n]? with|JS es=>qT (es.map λp=>.str p.1) l|none=>JT)=JQ:=h;cases h1:wJ zy[n]? with|none=>rw[h1]at h;cases h|some es=>rw[h1]at h;exact⟨_,ub h1,(iB h).symm⟩
 |_=>cases h
noncomputable def qp{zi:Type}(n:Nat)(k:Nat->zi):zi:=Nat.casesOn n (k 0) λp=>k (p+1)
theorem oE{zi:Type}(n:Nat)(k:Nat->zi):qp n k=k n:=by cases n<;>rfl
noncomputable def fN{zi:Type}(i:Int)(k:Int->zi):zi:=Int.casesOn i (λn=>qp n λn=>k (.ofNat n)) λn=>k (.negSucc n)
theorem YM{zi:Type}(n:Int)(k:Int->zi):fN n k=k n:=by cases n with|ofNat n=>exact oE n λn=>k (.ofNat n)|negSucc n=>rfl
noncomputable def fM{zi:Type}(v:V)(k:V->zi):zi:=V.casesOn v (k .none) (λb=>Bool.casesOn b (k (.bool JT)) (k (.bool JQ))) (λi=>fN i λi=>k (.int i)) (λs=>k (.str s)) (λvs=>k (.tup vs)) (λn=>qp n λn=>k (.ref n)) (λa=>k (.fn a)) (λa=>k (.cl a)) (λb=>k (.bi b)) λt=>k (.ty t)
theorem YL{zi:Type}(v:V)(k:V->zi):fM v k=k v:=by cases v with|int i=>exact YM i λi=>k (.int i)|ref n=>exact oE n λn=>k (.ref n)|bool b=>cases b<;>rfl|_=>rfl
noncomputable def xt{zi xJ:Type}(l:List zi):(List zi->xJ)->xJ:=List.rec (λk=>k []) (λa zz ih k=>ih λt=>k (a::t)) l
theorem xG{zi xJ:Type}:∀(l:List zi)(k:List zi->xJ),xt l k=k l|[],zo=>rfl|a::l,k=>xG l λt=>k (a::t)
noncomputable def vf(v:V)(J:St):Option (V×St):=fM v λv=>JS (v,J)
theorem M1(v:V)(J:St):vf v J=JS (v,J):=YL v _
noncomputable def retS(v:V)(J:St):Option (V×St):=fM v λv=>xt J λJ=>JS (v,J)
theorem M0(v:V)(J:St):retS v J=JS (v,J):=(YL v _).trans (xG J _)
noncomputable def qr(L:Loc)(J:St):Option (Option V×Loc×St):=xt L λL=>xt J λJ=>JS (none,L,J)
theorem Yj(L:Loc)(J:St):qr L J=JS (none,L,J):=(xG L _).trans (xG J _)
noncomputable def i8(J:St)(n c x:Nat)(v:V)(fs:Loc)(L:Loc):Option (Option V×Loc×St):=xt (st x v fs) λfs=>qr L (J.set n (.inst c fs))
theorem Lg{J:St}{n c x:Nat}{v:V}{fs L:Loc}:i8 J n c x v fs L=JS (none,L,J.set n (.inst c (st x v fs))):=(xG _ _).trans (Yj _ _)
noncomputable def iA(J:St)(n:Nat)(k:List Nat)(v:V)(es:List (List Nat×V)){zi:Type}(g:St->zi):zi:=xt (dput k v es) λes=>xt (J.set n (.dict es)) g
theorem cK{J:St}{n:Nat}{k:List Nat}{v:V}{es:List (List Nat×V)}{zi:Type}{g:St->zi}:iA J n k v es g=g (J.set n (.dict (dput k v es))):=(xG _ _).trans (xG _ _)
noncomputable abbrev wz:=Bool->Loc->St->Option (V×St)
structure w6 where
 e:wz
 l:Bool->Loc->St->Option (List V×St)
 k:Bool->Loc->St->Option (List (List Nat×V)×St)
 a:wz
 o:wz
noncomputable def vu{zi:Type}:Bool->Loc->St->Option zi:=λzz zz zz=>none
noncomputable def xZ(f:wz):w6:=⟨f,vu,vu,vu,vu⟩
noncomputable def yl{zi:Type}(c:Bool)(k:Option zi):Option zi:=match c with|JQ=>k|JT=>none
noncomputable def V4(v:V):Option Nat:=V.casesOn v none (λzz=>none) (λzz=>none) (λzz=>none) (λzz=>none) (λzz=>none) (λzz=>none) JS (λzz=>none) λzz=>none
theorem Kl{v:V}{n:Nat}(h:V4 v=JS n):v=.cl n:=by cases v<;>cases h;rfl
noncomputable def pO(v:V):Bool:=V.casesOn v JQ (λzz=>JT) (λzz=>JT) (λzz=>JT) (λzz=>JT) (λzz=>JT) (λzz=>JT) (λzz=>JT) (λzz=>JT) λzz=>JT
theorem eA{v:V}(h:pO v=JQ):v=.none:=by cases v<;>first|rfl|cases h
noncomputable def VH(o i:V)(J:St):Option V:=(xM o).bind λn=>match vStr i with|JS k=>(match wJ J[n]? with|JS es=>zG k es|none=>(iS J[n]?).bind λes=>zG k es)|none=>(vInt i).bind λj=>(uE J[n]?).bind λl=>yl (decide (0<=j)&&decide (j<100)) l[j.toNat]?
noncomputable def findR(n x:Nat)(J:St):Option (V×List V):=match p9 J[n]? with|JS p=>(prog.zl p.1 x).bind λg=>yl (lk x p.2).isNone (JS (.fn g,[.ref n]))|none=>match uE J[n]? with|JS zo=>yl (JG x Wi) (JS (.bi .nQ,[.ref n]))|none=>match wJ J[n]? with|JS zo=>(match JG x l9 with|JQ=>JS (.bi .zG,[.ref n])|JT=>yl (JG x Wf) (JS (.bi .m9,[.ref n])))|none=>(iS J[n]?).bind λzz=>yl (JG x l9) (JS (.bi .zG,[.ref n]))
noncomputable def fQ(o:V)(x:Nat)(J:St):Option (V×List V):=match xM o with|none=>(V4 o).bind λc=>(prog.zl c x).map λg=>(.fn g,[])|JS n=>findR n x J
noncomputable def gV(op:qL)(a b:V):Option V:=match vStr a with|JS x=>(vStr b).bind λy=>yl (JG op.ctorIdx 0&&short (x++y)) (JS (.str (x++y)))|none=>(vInt a).bind λx=>(vInt b).bind λy=>yl (JG op.ctorIdx 5&&(decide (x=10)&&decide (y=6))) (JS (.int 1000000))
noncomputable def j9(k:List Nat)(b:V)(J:St):Option Bool:=match qP b with|JS vs=>(strsOf vs).map λl=>l.any (zR k)|none=>(xM b).bind λn=>(wJ J[n]?).map λes=>(zG k es).isSome
noncomputable def aZ(op:ry)(a b:V)(J:St):Option Bool:=ry.casesOn op ((vStr b).bind λy=>match pO a with|JQ=>yl (plainS y) (JS JT)|JT=>(vStr a).bind λx=>yl (plainS x&&plainS y) (JS (zR y x))) none none (yl (pO b) (isNone a)) (yl (pO b) ((isNone a).map (! .))) ((vStr a).bind λk=>j9 k b J) ((vStr a).bind λk=>(j9 k b J).map (! .))
noncomputable def dU(f:wz)(s:Bool)(L:Loc)(xs:List Nat)(t:IT)(l:List V)(n0:Nat):List V->List V->St->Option (List V×St)|[],acc,J=>yl (tO t l J) (JS (acc,J))|x::r,acc,J=>yl (tO t l J) ((vP xs x L).bind λL1=>xt L1 λL1=>(f s L1 J).bind λp=>(uE p.2[n0]?).bind λa=>yl (short acc&&qT a acc) (xt (acc++[p.1]) λac=>xt (p.2.set n0 (.list ac)) λrC=>dU f s L xs t l n0 r ac rC))
noncomputable def Uv(f fs:w6):Bool->Loc->St->Option (List V×St):=λs L J=>(f.e s L J).bind λp=>(fs.l s L p.2).bind λq=>JS (p.1::q.1,q.2)
noncomputable def V0(es:M)(f fs:w6):wz:=λs L J=>(f.e s L J).bind λp=>(vBool p.1).bind λt=>match JG es.ctorIdx 8 with|JQ=>vf (.bool t) p.2|JT=>yl (JG es.ctorIdx 9) (match t with|JQ=>fs.a s L p.2|JT=>vf (.bool JT) p.2)
noncomputable def Up(es:M)(f fs:w6):wz:=λs L J=>(f.e s L J).bind λp=>(vBool p.1).bind λt=>match JG es.ctorIdx 8 with|JQ=>vf (.bool t) p.2|JT=>yl (JG es.ctorIdx 9) (match t with|JQ=>vf (.bool JQ) p.2|JT=>fs.o s L p.2)
noncomputable def Ut(f g h:w6):Bool->Loc->St->Option (List (List Nat×V)×St):=λs L J=>(f.e s L J).bind λp=>(vStr p.1).bind λa=>(g.e s L p.2).bind λq=>(h.k s L q.2).bind λw=>JS ((a,q.1)::w.1,w.2)
noncomputable def Uo(f:w6):wz:=λs L J=>(f.l s L J).bind λq=>yl (short q.1) (vf (.tup q.1) q.2)
noncomputable def Ur(f:w6):wz:=λs L J=>(f.l s L J).bind λq=>yl (short q.1) (retS (.ref q.2.length) (q.2++[.list q.1]))
noncomputable def bu(m:M)(f:w6):wz:=λs L J=>match JG m.ctorIdx 8 with|JQ=>retS (.ref J.length) (J++[.dict []])|JT=>yl (!s&&JG m.ctorIdx 10) ((xt (J++[.dict []]) λoZ=>f.k s L oZ).bind λq=>(wJ q.2[J.length]?).bind λes=>yl (es.isEmpty&&short q.1) (xt (u2 q.1 []) λds=>retS (.ref J.length) (q.2.set J.length (.dict ds))))
noncomputable def V'(x:Nat)(f:w6):wz:=λs L J=>(f.e s L J).bind λp=>(xM p.1).bind λn=>(p9 p.2[n]?).bind λw=>yl (xi w.1 x) ((lk x w.2).bind λu=>vf u p.2)
noncomputable def w_sub(f g:w6):wz:=λs L J=>(f.e s L J).bind λp=>(g.e s L p.2).bind λq=>(VH p.1 q.1 q.2).bind λv=>vf v q.2
noncomputable def Uy(z_:V->List V->St->Option (V×St))(f g:w6):wz:=λs L J=>yl (!s) ((f.e s L J).bind λp=>(g.l s L p.2).bind λq=>yl (sN p.1) ((z_ p.1 q.1 q.2).bind λr=>vf r.1 r.2))
noncomputable def Uq(z_:V->List V->St->Option (V×St))(x:Nat)(f g:w6):wz:=λs L J=>yl (!s) ((f.e s L J).bind λp=>(fQ p.1 x p.2).bind λw=>(g.l s L p.2).bind λq=>yl (sN w.1) ((z_ w.1 (w.2++q.1) q.2).bind λr=>vf r.1 r.2))
noncomputable def Uz(op:qL)(f g:w6):wz:=λs L J=>(f.e s L J).bind λp=>(g.e s L p.2).bind λq=>(gV op p.1 q.1).bind λv=>vf v q.2
noncomputable def w_not(f:w6):wz:=λs L J=>(f.e s L J).bind λp=>(vBool p.1).bind λt=>vf (.bool (!t)) p.2
noncomputable def Ux(op:ry)(f g:w6):wz:=λs L J=>(f.e s L J).bind λp=>(g.e s L p.2).bind λq=>(aZ op p.1 q.1 q.2).bind λt=>vf (.bool t) q.2
noncomputable def w_ite(f g h:w6):wz:=λs L J=>(f.e s L J).bind λp=>(vBool p.1).bind λt=>match t with|JQ=>g.e s L p.2|JT=>h.e s L p.2
noncomputable def Uw(xs:List Nat)(k:IK)(c:M)(f g:w6):wz:=λs L J=>yl (!s&&(JG k.ctorIdx 0&&JG c.ctorIdx 8)) ((g.e s L J).bind λp=>(iw p.1 p.2).bind λt=>yl (lk 52 L).isNone ((xt (p.2++[.list []]) λoZ=>qp p.2.length λn0=>dU f.e t.1.d L xs t.1 t.2 n0 t.2 [] oZ).bind λq=>vf (.ref p.2.length) q.2))
noncomputable def Us(x:Nat):wz:=λzz L J=>(lk x L).bind λv=>vf v J
noncomputable def Uu(x:Nat):wz:=λzz zz J=>(prog.glob x).bind λv=>vf v J
noncomputable def qO(v:V):wz:=λzz zz J=>vf v J
noncomputable def yK(z_:V->List V->St->Option (V×St))(m:M):w6:=M.rec (motive:=λzz=>w6) (xZ vu) (xZ (qO .none)) (λb=>xZ (qO (.bool b))) (λi=>xZ (qO (.int i))) (λt=>xZ (qO (.str t))) (λzz=>xZ vu) (λx=>xZ (Us x)) (λx=>xZ (Uu x)) ⟨vu,λzz zz J=>JS ([],J),λzz zz J=>JS ([],J),vu,vu⟩ (λzz es f fs=>⟨vu,Uv f fs,vu,V0 es f fs,Up es f fs⟩) (λzz zz zz f g h=>⟨vu,vu,Ut f g h,vu,vu⟩) (λzz f=>xZ (Uo f)) (λzz f=>xZ (Ur f)) (λm f=>xZ (bu m f)) (λzz x f=>xZ (V' x f)) (λzz zz f g=>xZ (w_sub f g)) (λzz zz zz zz=>xZ vu) (λzz zz zz zz=>xZ vu) (λzz zz=>xZ vu) (λzz zz=>xZ vu) (λzz zz f g=>xZ (Uy z_ f g)) (λzz x zz f g=>xZ (Uq z_ x f g)) (λop zz zz f g=>xZ (Uz op f g)) (λzz f=>xZ (w_not f)) (λop zz zz f g=>xZ (Ux op f g)) (λzz f=>xZ f.a) (λzz f=>xZ f.o) (λzz zz zz f g h=>xZ (w_ite f g h)) (λzz xs k zz c f g zz=>xZ (Uw xs k c f g)) m
noncomputable abbrev xU:=Loc->St->Option (Option V×Loc×St)
noncomputable def my(f g:xU):xU:=λL J=>(f L J).bind λr=>match r.1 with|JS _=>JS r|none=>g r.2.1 r.2.2
noncomputable def dT(f:xU)(xs:List Nat)(t:IT)(l:List V):List V->xU|[],L,J=>yl (tO t l J) (JS (none,L,J))|x::r,L,J=>yl (tO t l J) ((vP xs x L).bind λL1=>xt L1 λL1=>my f (dT f xs t l r) L1 J)
noncomputable def wN(z_:V->List V->St->Option (V×St))(m:M)(L:Loc)(J:St)(k:V->St->Option (Option V×Loc×St)):Option (Option V×Loc×St):=((yK z_ m).e JT L J).bind λp=>k p.1 p.2
noncomputable def lE(z_:V->List V->St->Option (V×St))(c:M)(f:xU):Nat->xU|0=>λzz zz=>none|n+1=>λL J=>wN z_ c L J λv z8=>(vBool v).bind λt=>match t with|JQ=>my f (lE z_ c f n) L z8|JT=>JS (none,L,z8)
noncomputable def wY:xU:=λzz zz=>none
noncomputable abbrev uU:=V->List V->St->Option (V×St)
noncomputable def UI(z_:uU)(e:M):xU:=λL J=>wN z_ e L J λzz z8=>qr L z8
noncomputable def UG(z_:uU)(e:M):xU:=λL J=>wN z_ e L J λv z8=>JS (JS v,L,z8)
noncomputable def UP(z_:uU)(x:Nat)(e:M):xU:=λL J=>yl (qb e) (wN z_ e L J λv z8=>qr (st x v L) z8)
noncomputable def UL(z_:uU)(xs:List Nat)(e:M):xU:=λL J=>wN z_ e L J λv z8=>(qP v).bind λvs=>(stores xs vs L).bind λL1=>yl (decide xs.Nodup) (qr L1 z8)
noncomputable def UO(z_:uU)(o:M)(x:Nat)(e:M):xU:=λL J=>wN z_ e L J λv z8=>wN z_ o L z8 λov vQ=>(xM ov).bind λn=>(p9 vQ[n]?).bind λp=>yl (xi p.1 x&&short p.2) (i8 vQ n p.1 x v p.2 L)
noncomputable def UN(z_:uU)(o i e:M):xU:=λL J=>wN z_ e L J λv z8=>wN z_ o L z8 λov vQ=>wN z_ i L vQ λiv rC=>(xM ov).bind λn=>(vStr iv).bind λk=>(wJ rC[n]?).bind λes=>yl (short es) (iA rC n k v es λba=>qr L ba)
noncomputable def UM(z_:uU)(o i o' i' e:M):xU:=λL J=>wN z_ e L J λw z8=>(qP w).bind λws=>(hd2 ws).bind λp=>wN z_ o L z8 λov vQ=>wN z_ i L vQ λiv rC=>(xM ov).bind λn=>(vStr iv).bind λk=>(wJ rC[n]?).bind λes=>yl (short es) (iA rC n k p.1 es λba=>wN z_ o' L ba λkq UA=>wN z_ i' L UA λlI b_=>(xM kq).bind λn'=>(vStr lI).bind λk'=>(wJ b_[n']?).bind λuN=>yl (short uN) (iA b_ n' k' p.2 uN λKC=>qr L KC))
noncomputable def UK(z_:uU)(o:M)(x:Nat)(e:M):xU:=λL J=>wN z_ o L J λov z8=>(xM ov).bind λn=>(p9 z8[n]?).bind λp=>(lk x p.2).bind λw=>(vInt w).bind λi=>wN z_ e L z8 λu vQ=>(vInt u).bind λj=>(p9 vQ[n]?).bind λp'=>yl (xi p.1 x&&(JG p.1 p'.1&&short p'.2)) (fN (i+j) λz=>i8 vQ n p.1 x (.int z) p'.2 L)
noncomputable def UJ(z_:uU)(c:M)(f g:xU):xU:=λL J=>wN z_ c L J λv z8=>(vBool v).bind λt=>match t with|JQ=>f L z8|JT=>g L z8
noncomputable def UH(z_:uU)(xs:List Nat)(k:IK)(m:M)(f:xU):xU:=λL J=>yl (JG k.ctorIdx 0) (wN z_ m L J λv z8=>(iw v z8).bind λt=>yl (!t.1.d) (dT f xs t.1 t.2 t.2 L z8))
noncomputable def vZ(z_:uU)(b:S):xU×xU:=S.rec (motive:=λzz=>xU×xU) (wY,wY) (wY,λL J=>JS (none,L,J)) (λzz zz f g=>(wY,my f.1 g.2)) (λe=>(UI z_ e,wY)) (λe=>(UG z_ e,wY)) (λx e=>(UP z_ x e,wY)) (λxs e=>(UL z_ xs e,wY)) (λo x e=>(UO z_ o x e,wY)) (λo i e=>(UN z_ o i e,wY)) (λo i o' i' e=>(UM z_ o i o' i' e,wY)) (λo x e=>(UK z_ o x e,wY)) (λc zz zz f g=>(UJ z_ c f.2 g.2,wY)) (λc zz f=>(lE z_ c f.2 12,wY)) (λxs k m zz f=>(UH z_ xs k m f.2,wY)) (λzz=>(wY,wY)) (λzz zz zz zz=>(wY,wY)) b
noncomputable def m'(n:Nat):V->List V->St->Option (V×St):=Nat.rec (λzz zz zz=>none) (λzz ih fv args J=>V.casesOn fv none (λzz=>none) (λzz=>none) (λzz=>none) (λzz=>none) (λzz=>none) (λa=>(prog.fn a).bind λfd=>(uo fd.params fd.dflt args).bind λL=>(xt L λL=>(vZ ih fd.body).2 L J).bind λr=>JS (r.1.getD .none,r.2.2)) (λc=>(prog.cls c).bind λp=>yl (!p.2) ((prog.fn p.1).bind λfd=>qp J.length λn=>(uo fd.params fd.dflt (.ref n::args)).bind λL=>(xt L λL=>xt (J++[.inst c []]) λoZ=>(vZ ih fd.body).2 L oZ).bind λr=>yl r.1.isNone (JS (.ref n,r.2.2)))) (λf=>HI args none λa0 rest=>(xM a0).bind λn=>Bi.casesOn f none none none none none ((sg rest).bind λv=>(uE J[n]?).bind λxs=>yl (short xs) (xt (xs++[v]) λl=>xt (J.set n (.list l)) λz8=>JS (.none,z8))) none none none (HI rest none λk0 r2=>(vStr k0).bind λk=>(match wJ J[n]? with|JS es=>JS es|none=>iS J[n]?).bind λes=>HI r2 (JS ((zG k es).getD .none,J)) λdv r3=>yl r3.isEmpty (JS ((zG k es).getD dv,J))) none ((sg rest).bind λv=>(xM v).bind λm=>(wJ J[n]?).bind λes=>(wJ J[m]?).bind λfs=>yl (!JG m n&&short (es++fs)) (xt (u2 fs es) λds=>xt (J.set n (.dict ds)) λz8=>JS (.none,z8))) none) (λt=>(sg args).bind λa0=>(xM a0).bind λn=>Ty.casesOn t none none none ((wJ J[n]?).bind λes=>yl (short es) (xt (es.map λp=>V.str p.1) λl=>xt (J++[.list l]) λz8=>qp J.length λn=>JS (.ref n,z8))) ((uE J[n]?).bind λl=>(kvs l).bind λps=>yl (short ps) (xt (u2 ps []) λds=>xt (J++[.dict ds]) λz8=>qp J.length λn=>JS (.ref n,z8))) none none none)) n
section
variable{F:Fr}{L:Loc}{J zt zy:St}
theorem yV{zi:Type}{c:Bool}{k:Option zi}{x:zi}(h:yl c k=JS x):c=JQ/\k=JS x:=by cases c with|true=>exact⟨rfl,h⟩|false=>cases h
theorem vp{v:V}{r:V×St}(h:vf v J=JS r):r=(v,J):=by rw[M1]at h;cases h;rfl
theorem cS{v:V}{r:V×St}(h:retS v J=JS r):r=(v,J):=by rw[M0]at h;cases h;rfl
theorem LM{o i v:V}(h:VH o i J=JS v):Sub F o i J v:=by
 obtain⟨n,h1,h⟩:=zX h;rw[vc h1];cases h2:vStr i with
 |some k=>rw[h2]at h;rw[uu h2];cases h3:wJ J[n]? with|some es=>rw[h3]at h;exact n8 (.inl (ub h3)) h|none=>rw[h3]at h;obtain⟨es,h4,h⟩:=zX h;exact n8 (.inr (dA h4)) h
 |none=>rw[h2]at h;obtain⟨j,h3,h⟩:=zX h;obtain⟨l,h4,h⟩:=zX h;obtain⟨h5,h⟩:=yV h;obtain⟨h6,h7⟩:=zh h5;rw[kN h3];obtain⟨m,rfl⟩:=Fy (of_decide_eq_true h6);exact tA (p8 h4) h (Hm (Int.ofNat_lt.mp (of_decide_eq_true h7)) (by decide))
theorem R4{o:V}{x:Nat}{w:V×List V}(h:fQ o x J=JS w):Find F o x J w.1 w.2:=by
 unfold fQ at h;cases h1:xM o with
 |none=>rw[h1]at h;obtain⟨c,h2,h⟩:=zX h;obtain⟨g,h3,rfl⟩:=JB.mp h;rw[Kl h2];exact fP h3
 |some n=>
  rw[h1]at h;have h:findR n x J=JS w:=h;unfold findR at h;rw[vc h1];cases h2:p9 J[n]? with
  |some p=>rw[h2]at h;obtain⟨g,h3,h⟩:=zX h;obtain⟨h4,h⟩:=yV h;cases h;exact xS (l8 h2) h3 (Ht.mp h4)
  |none=>
   rw[h2]at h;cases h3:uE J[n]? with
   |some xs=>rw[h3]at h;obtain⟨h4,h⟩:=yV h;cases h;rw[JD h4];exact ug (p8 h3)
   |none=>
    rw[h3]at h;cases h4:wJ J[n]? with
    |some es=>rw[h4]at h;cases h5:JG x l9 with|true=>rw[h5]at h;cases h;rw[JD h5];exact tQ (ub h4)|false=>rw[h5]at h;obtain⟨h6,h⟩:=yV h;cases h;rw[JD h6];exact Qx (ub h4)
    |none=>rw[h4]at h;obtain⟨es,h5,h⟩:=zX h;obtain⟨h6,h⟩:=yV h;cases h;rw[JD h6];exact YT (dA h5)
theorem SX{op:qL}{a c v:V}(h:gV op a c=JS v):ur F op a c J (.ok v J):=by
 unfold gV at h;cases h1:vStr a with
 |some x=>rw[h1]at h;obtain⟨y,h2,h⟩:=zX h;obtain⟨h3,h⟩:=yV h;obtain⟨h4,h5⟩:=zh h3;cases h;rewrite[uu h1];rw[uu h2];cases op<;>first|exact u9 h5|cases h4
 |none=>rw[h1]at h;obtain⟨x,h2,h⟩:=zX h;obtain⟨y,h3,h⟩:=zX h;obtain⟨h4,h⟩:=yV h;obtain⟨h5,h6⟩:=zh h4;obtain⟨h7,h8⟩:=zh h6;cases h;rewrite[kN h2];rewrite[kN h3];rewrite[of_decide_eq_true h7];rw[of_decide_eq_true h8];cases op<;>first|exact Sn|cases h5
theorem Xb{k:List Nat}{c:V}{t:Bool}(h:j9 k c J=JS t):xg F .yQ (.str k) c J t/\xg F .y9 (.str k) c J (!t):=by unfold j9 at h;cases h1:qP c with|some vs=>rw[h1]at h;obtain⟨l,h2,rfl⟩:=JB.mp h;rw[kM h1];exact gT h2|none=>rw[h1]at h;obtain⟨n,h2,h⟩:=zX h;obtain⟨es,h3,rfl⟩:=JB.mp h;rw[vc h2];exact mH (ub h3)
theorem Rp{op:ry}{a c:V}{t:Bool}(h:aZ op a c J=JS t):xg F op a c J t:=by
 cases op with
 |eq=>obtain⟨y,h1,h⟩:=zX (show(vStr c).bind _=JS t from h);rw[uu h1];cases h2:pO a with|true=>rw[h2]at h;obtain⟨h3,h⟩:=yV h;cases h;rw[eA h2];exact gU rfl h3 rfl|false=>rw[h2]at h;obtain⟨x,h3,h⟩:=zX h;obtain⟨h4,h⟩:=yV h;obtain⟨h5,h6⟩:=zh h4;cases h;rw[uu h3];exact u6 h5 h6
 |ne=>cases h
 |lt=>cases h
 |is=>obtain⟨h1,h⟩:=yV (show yl (pO c) (isNone a)=JS t from h);rw[eA h1];exact yX h
 |yS=>obtain⟨h1,h⟩:=yV (show yl (pO c) ((isNone a).map (! .))=JS t from h);obtain⟨u,h2,rfl⟩:=JB.mp h;rw[eA h1];exact ri h2
 |yQ=>obtain⟨k,h1,h⟩:=zX (show(vStr a).bind _=JS t from h);rw[uu h1];exact(Xb h).1
 |y9=>obtain⟨k,h1,h⟩:=zX (show(vStr a).bind _=JS t from h);obtain⟨u,h2,rfl⟩:=JB.mp h;rw[uu h1];exact(Xb h2).2
end
noncomputable def mY(z_:V->List V->St->Option (V×St))(n:Nat):Prop:=∀F:Fr,F.q=JT->F.s=JT->n<=F.d->∀fv args J r,z_ fv args J=JS r->Call F fv args J (.ok r.1 r.2)
structure SM(z_:V->List V->St->Option (V×St))(n:Nat)(m:M):Prop where
 e:∀(F:Fr)(L:Loc),F.q=false->n<=F.d->∀J r,(yK z_ m).e F.s L J=some r->E F L m J (.ok r.1 r.2)
 l:∀(F:Fr)(L:Loc),F.q=false->n<=F.d->∀J r,(yK z_ m).l F.s L J=some r->Es F L m J r.1 r.2
 k:∀(F:Fr)(L:Loc),F.q=false->n<=F.d->∀J r,(yK z_ m).k F.s L J=some r->Kv F L m J r.1 r.2
 a:∀(F:Fr)(L:Loc),F.q=false->n<=F.d->∀J r,(yK z_ m).a F.s L J=some r->∃t,r.1=.bool t/\E F L (.and m) J (.ok (.bool t) r.2)
 o:∀(F:Fr)(L:Loc),F.q=false->n<=F.d->∀J r,(yK z_ m).o F.s L J=some r->∃t,r.1=.bool t/\E F L (.or m) J (.ok (.bool t) r.2)
section
variable{z_:V->List V->St->Option (V×St)}{n:Nat}
theorem SM.of{m:M}(f:wz)(h:yK z_ m=xZ f)(e:∀(F:Fr)(L:Loc),F.q=JT->n<=F.d->∀J r,f F.s L J=JS r->E F L m J (.ok r.1 r.2)):SM z_ n m:=by
 refine⟨?_,?_,?_,?_,?_⟩;.rw[h];exact e
 all_goals(rw[h];exactλF L zz zz J r h=>(nomatch h))
theorem ix{m:M}(h:JG m.ctorIdx 8=JQ):m=.nil:=by cases m<;>first|rfl|cases h
theorem iy{m:M}(h:JG m.ctorIdx 9=JQ):X2 λk r=>m=.cons k r:=by cases m<;>first|exact⟨_,_,rfl⟩|cases h
theorem Od{m:M}(h:JG m.ctorIdx 10=JQ):X3 λk v r=>m=.kv k v r:=by cases m<;>first|exact⟨_,_,_,rfl⟩|cases h
theorem Wv{f:wz}{F:Fr}{L:Loc}{xs:List Nat}{t:IT}{l:List V}{elt:M}{n0:Nat}(hf:∀L J r,f t.d L J=JS r->E {F with s:=t.d} L elt J (.ok r.1 r.2)):∀(ys acc:List V)(J:St)(r:List V×St),(∃pre,l=pre++ys)->t.is l J\/True->dU f t.d L xs t l n0 ys acc J=JS r->(∀zy,tO t l zy=JQ->t.is l zy)->CL F L xs t l elt .nil n0 ys.length acc J r.1 r.2|[],acc,J,r,zo,zY,h,hi=>by obtain⟨h1,h⟩:=yV (show yl (tO t l J) (JS (acc,J))=JS r from h);cases h;exact .stop (hi _ h1)|x::ys,acc,J,r,⟨pre,hp⟩,zo,h,hi=>by obtain⟨h1,h⟩:=yV (show yl (tO t l J) _=JS r from h);obtain⟨L1,h2,h⟩:=zX h;rw[xG]at h;obtain⟨p,h3,h⟩:=zX h;obtain⟨a,h4,h⟩:=zX h;obtain⟨h5,h⟩:=yV h;obtain⟨h6,h7⟩:=zh h5;rw[xG,xG]at h;have ea:=iB h7;subst ea;refine .take (hi _ h1) ?_ h2 (.inl ⟨rfl,rfl⟩) (hf _ _ _ h3) (p8 h4) h6 (Wv hf ys _ _ r ⟨pre++[x],by rewrite[hp];rw[J'];rfl⟩ (.inr trivial) h hi);rewrite[hp];rewrite[JO];rewrite[ID];rewrite[GK];rewrite[I_ (JK _)];rw[Hn];rfl
theorem La(hc:mY z_ n)(m:M):SM z_ n m:=by
 induction m with
 |qh=>exact .of _ rfl λF L zz zz J r h=>nomatch h
 |none=>exact .of (qO .none) rfl λF L zz zz J r h=>by rw[vp h];exact zQ
 |bool b=>exact .of (qO (.bool b)) rfl λF L zz zz J r h=>by rw[vp h];exact sR
 |int i=>exact .of (qO (.int i)) rfl λF L zz zz J r h=>by rw[vp h];exact yw
 |str t=>exact .of (qO (.str t)) rfl λF L zz zz J r h=>by rw[vp h];exact zV
 |neg i=>exact .of _ rfl λF L zz zz J r h=>nomatch h
 |loc x=>refine .of (Us x) rfl λF L zz zz J r h=>?_;obtain⟨v,h1,h⟩:=zX h;rw[vp h];exact zx h1
 |zu x=>refine .of (Uu x) rfl λF L zz zz J r h=>?_;obtain⟨v,h1,h⟩:=zX h;rw[vp h];exact yp h1
 |nil=>exact⟨λF L zz zz J r h=>(nomatch h),λF L zz zz J r h=>by cases h;exact zf,λF L zz zz J r h=>by cases h;exact XA,λF L zz zz J r h=>(nomatch h),λF L zz zz J r h=>(nomatch h)⟩
 |cons e es ie eB=>
  refine⟨λF L zz zz J r h=>(nomatch h),λF L q d J r h=>?_,λF L zz zz J r h=>(nomatch h),λF L q d J r h=>?_,λF L q d J r h=>?_⟩;.obtain h:Uv (yK z_ e) (yK z_ es) F.s L J=JS r:=h;obtain⟨p,h1,h⟩:=zX h;obtain⟨w,h2,h⟩:=zX h;cases h;exact zp (ie.e F L q d _ _ h1) (eB.l F L q d _ _ h2)
  .have h:V0 es (yK z_ e) (yK z_ es) F.s L J=JS r:=h;obtain⟨⟨v,z8⟩,h1,h⟩:=zX h;obtain⟨t,h2,h⟩:=zX h;have h1:=ie.e F L q d _ _ h1;rw[me h2]at h1;cases h3:JG es.ctorIdx 8 with|true=>simp only[h3]at h;rewrite[ix h3];rw[vp h];exact⟨t,rfl,uh h1⟩|false=>simp only[h3]at h;obtain⟨h4,h⟩:=yV h;cases t with|true=>obtain⟨u,e1,h5⟩:=eB.a F L q d _ _ h;obtain⟨b,r',rfl⟩:=iy h4;exact⟨u,e1,w5 h1 h5⟩|false=>obtain⟨b,r',rfl⟩:=iy h4;rw[vp h];exact⟨_,rfl,tR h1⟩
  .have h:Up es (yK z_ e) (yK z_ es) F.s L J=JS r:=h;obtain⟨⟨v,z8⟩,h1,h⟩:=zX h;obtain⟨t,h2,h⟩:=zX h;have h1:=ie.e F L q d _ _ h1;rw[me h2]at h1;cases h3:JG es.ctorIdx 8 with|true=>simp only[h3]at h;rewrite[ix h3];rw[vp h];exact⟨t,rfl,uO h1⟩|false=>simp only[h3]at h;obtain⟨h4,h⟩:=yV h;cases t with|false=>obtain⟨u,e1,h5⟩:=eB.o F L q d _ _ h;obtain⟨b,r',rfl⟩:=iy h4;exact⟨u,e1,uP h1 h5⟩|true=>obtain⟨b,r',rfl⟩:=iy h4;rw[vp h];exact⟨_,rfl,sd h1⟩
 |kv k v r ik iv ir=>refine⟨λF L zz zz J r h=>(nomatch h),λF L zz zz J r h=>(nomatch h),λF L q d J w h=>?_,λF L zz zz J r h=>(nomatch h),λF L zz zz J r h=>(nomatch h)⟩;obtain h:Ut (yK z_ k) (yK z_ v) (yK z_ r) F.s L J=JS w:=h;obtain⟨p,h1,h⟩:=zX h;obtain⟨a,h2,h⟩:=zX h;obtain⟨p',h3,h⟩:=zX h;obtain⟨Jg,h4,h⟩:=zX h;cases h;obtain h1:=ik.e F L q d _ _ h1;rw[uu h2]at h1;exact dh h1 (iv.e F L q d _ _ h3) (ir.k F L q d _ _ h4)
 |tup es ih=>refine .of (Uo (yK z_ es)) rfl λF L q d J r h=>?_;obtain⟨p,h1,h⟩:=zX h;obtain⟨h2,h⟩:=yV h;rw[vp h];exact x_ (ih.l F L q d _ _ h1) h2
 |lst es ih=>refine .of (Ur (yK z_ es)) rfl λF L q d J r h=>?_;obtain⟨p,h1,h⟩:=zX h;obtain⟨h2,h⟩:=yV h;rw[cS h];exact y5 (ih.l F L q d _ _ h1) h2
 |wg m ih=>refine .of (bu m (yK z_ m)) rfl λF L q d J r h=>?_;unfold bu at h;cases h1:JG m.ctorIdx 8 with|true=>simp only[h1]at h;rewrite[ix h1];rw[cS h];exact jY|false=>simp only[h1]at h;obtain⟨h2,h⟩:=yV h;obtain⟨h3,h4⟩:=zh h2;rw[xG]at h;obtain⟨p,h5,h⟩:=zX h;obtain⟨es,h6,h⟩:=zX h;obtain⟨h7,h⟩:=yV h;obtain⟨h8,h9⟩:=zh h7;rw[xG]at h;have hk:=ih.k F L q d _ _ h5;have e:=cS h;obtain⟨k,v,w,rfl⟩:=Od h4;rw[e];exact Ys (by rw[Ii]at h3;exact h3) hk (by rewrite[ub h6];rw[Fz.mp h8]) h9
 |attr e x ih=>refine .of (V' x (yK z_ e)) rfl λF L q d J r h=>?_;obtain⟨p,h1,h⟩:=zX h;obtain⟨n,h2,h⟩:=zX h;obtain⟨w,h3,h⟩:=zX h;obtain⟨h4,h⟩:=yV h;obtain⟨u,h5,h⟩:=zX h;obtain h1:=ih.e F L q d _ _ h1;rw[vc h2]at h1;rw[vp h];exact zM h1 (l8 h3) h4 h5
 |sub o i io ii=>refine .of (w_sub (yK z_ o) (yK z_ i)) rfl λF L q d J r h=>?_;obtain⟨p,h1,h⟩:=zX h;obtain⟨p',h2,h⟩:=zX h;obtain⟨v,h3,h⟩:=zX h;rw[vp h];show E F L _ J (.ok v p'.2);exact yL (io.e F L q d _ _ h1) (ii.e F L q d _ _ h2) (LM h3)
 |qR|p0|oz|wX=>exact .of _ rfl λF L zz zz J r h=>nomatch h
 |call f args jf ja=>refine .of (Uy z_ (yK z_ f) (yK z_ args)) rfl λF L q d J r h=>?_;obtain⟨h0,h⟩:=yV h;obtain⟨p,h1,h⟩:=zX h;obtain⟨p',h2,h⟩:=zX h;obtain⟨h3,h⟩:=yV h;obtain⟨w,h4,h⟩:=zX h;rw[Ii]at h0;rw[vp h];exact y6 (jf.e F L q d _ _ h1) (ja.l F L q d _ _ h2) (hc F q h0 d _ _ _ _ h4) h3
 |zl o x args jo ja=>refine .of (Uq z_ x (yK z_ o) (yK z_ args)) rfl λF L q d J r h=>?_;obtain⟨h0,h⟩:=yV h;obtain⟨p,h1,h⟩:=zX h;obtain⟨w,h2,h⟩:=zX h;obtain⟨p',h3,h⟩:=zX h;obtain⟨h4,h⟩:=yV h;obtain⟨u,h5,h⟩:=zX h;rw[Ii]at h0;rw[vp h];exact yo (jo.e F L q d _ _ h1) (R4 h2) (ja.l F L q d _ _ h3) (hc F q h0 d _ _ _ _ h5) h4
 |bin op a c ja jc=>refine .of (Uz op (yK z_ a) (yK z_ c)) rfl λF L q d J r h=>?_;obtain⟨p,h1,h⟩:=zX h;obtain⟨p',h2,h⟩:=zX h;obtain⟨v,h3,h⟩:=zX h;rw[vp h];exact yh (ja.e F L q d _ _ h1) (jc.e F L q d _ _ h2) (SX h3)
 |not e ih=>refine .of (w_not (yK z_ e)) rfl λF L q d J r h=>?_;obtain⟨p,h1,h⟩:=zX h;obtain⟨t,h2,h⟩:=zX h;have h1:=ih.e F L q d _ _ h1;rw[me h2]at h1;rw[vp h];exact vM h1
 |cmp op a c ja jc=>refine .of (Ux op (yK z_ a) (yK z_ c)) rfl λF L q d J r h=>?_;obtain⟨p,h1,h⟩:=zX h;obtain⟨p',h2,h⟩:=zX h;obtain⟨t,h3,h⟩:=zX h;rw[vp h];show E F L _ J (.ok (.bool t) p'.2);exact zZ (ja.e F L q d _ _ h1) (jc.e F L q d _ _ h2) (Rp h3)
 |and es ih=>exact .of ((yK z_ es).a) rfl λF L q d J r h=>let⟨t,e,k⟩:=ih.a F L q d J r h;by rw[e];exact k
 |or es ih=>exact .of ((yK z_ es).o) rfl λF L q d J r h=>let⟨t,e,k⟩:=ih.o F L q d J r h;by rw[e];exact k
 |ite c a e jc ja je=>refine .of (w_ite (yK z_ c) (yK z_ a) (yK z_ e)) rfl λF L q d J r h=>?_;obtain⟨p,h1,h⟩:=zX h;obtain⟨t,h2,h⟩:=zX h;obtain h1:=jc.e F L q d _ _ h1;rw[me h2]at h1;cases t with|true=>exact wq h1 (ja.e F L q d _ _ h)|false=>exact wt h1 (je.e F L q d _ _ h)
 |comp elt xs k it yd je ji jc=>
  refine .of (Uw xs k yd (yK z_ elt) (yK z_ it)) rfl λF L q d J r h=>?_;obtain⟨h0,h⟩:=yV h;obtain⟨h1,h2⟩:=zh h0;obtain⟨h3,h4⟩:=zh h2;obtain⟨p,h5,h⟩:=zX h;obtain⟨t,h6,h⟩:=zX h;obtain⟨h7,h⟩:=yV h;obtain⟨w,h8,h⟩:=zX h;rw[xG,oE]at h8;rw[Ii]at h1;obtain⟨i1,i2,i3⟩:=XT h6;obtain hk:k=t.1.k:=by rw[i3];cases k<;>first|rfl|cases h3
  obtain h5:=ji.e F L q d _ _ h5;rw[i1]at h5;obtain e:=vp h;obtain hn:=ix h4;subst hk hn;rw[e];exact sj q h1 (Ht.mp h7) h5 i2 (Wv (λL J r hr=>je.e {F with s:=t.1.d} L q d J r hr) t.2 [] _ w ⟨[],rfl⟩ (.inr trivial) h8 λzy hi=>XU i2 hi)
end
noncomputable def ph(o:Option V):Fl:=match o with|none=>.next|JS v=>.ret v
section
variable{z_:uU}{n:Nat}{L:Loc}{J:St}
structure SB(z_:uU)(n:Nat)(b:S):Prop where
 x:∀(F:Fr)(L:Loc),F.q=false->F.s=false->n<=F.d->∀J r,(vZ z_ b).1 L J=some r->X1 F L b J (.ok (ph r.1) r.2.1 r.2.2)
 b:∀(F:Fr)(L:Loc),F.q=false->F.s=false->n<=F.d->∀J r,(vZ z_ b).2 L J=some r->XB F L b J (.ok (ph r.1) r.2.1 r.2.2)
theorem SB.of{b:S}(f:xU)(h:vZ z_ b=(f,wY))(x:∀(F:Fr)(L:Loc),F.q=JT->F.s=JT->n<=F.d->∀J r,f L J=JS r->X1 F L b J (.ok (ph r.1) r.2.1 r.2.2)):SB z_ n b:=by
 refine⟨?_,?_⟩;.rw[h];exact x
 .rw[h];exactλF L zz zz zz J r h=>nomatch h
theorem w4(hc:mY z_ n){F:Fr}{m:M}{k:V->St->Option (Option V×Loc×St)}{r:Option V×Loc×St}(q:F.q=JT)(s:F.s=JT)(d:n<=F.d)(h:wN z_ m L J k=JS r):X2 λv zt=>E F L m J (.ok v zt)/\k v zt=JS r:=by obtain⟨p,h1,h⟩:=zX h;rw[<-s]at h1;exact⟨p.1,p.2,(La hc m).e F L q d _ _ h1,h⟩
theorem m5{r:Option V×Loc×St}(h:qr L J=JS r):r=(none,L,J):=by rw[Yj]at h;cases h;rfl
theorem Va{m c x:Nat}{v:V}{fs:Loc}{r:Option V×Loc×St}(h:i8 J m c x v fs L=JS r):r=(none,L,J.set m (.inst c (st x v fs))):=by rw[Lg]at h;cases h;rfl
theorem cM{f g:xU}{r:Option V×Loc×St}(h:my f g L J=JS r):(∃v,f L J=JS r/\r.1=JS v)\/X2 λL1 z8=>f L J=JS (none,L1,z8)/\g L1 z8=JS r:=by obtain⟨⟨o,L1,z8⟩,h1,h⟩:=zX h;cases o with|some v=>cases h;exact .inl ⟨v,h1,rfl⟩|none=>exact .inr ⟨L1,z8,h1,h⟩
theorem Un(hc:mY z_ n){F:Fr}{c:M}{b:S}(q:F.q=JT)(s:F.s=JT)(d:n<=F.d)(hb:∀L J r,(vZ z_ b).2 L J=JS r->XB F L b J (.ok (ph r.1) r.2.1 r.2.2)):∀(m:Nat)(L:Loc)(J:St)(r:Option V×Loc×St),lE z_ c (vZ z_ b).2 m L J=JS r->WL F c b m L J (.ok (ph r.1) r.2.1 r.2.2)
|0,L,J,r,h=>nomatch h
|m+1,L,J,r,h=>by
 have h:wN z_ c L J (λv z8=>(vBool v).bind λt=>match t with|JQ=>my (vZ z_ b).2 (lE z_ c (vZ z_ b).2 m) L z8|JT=>JS (none,L,z8))=JS r:=h;obtain⟨v,z8,h1,h⟩:=w4 hc q s d h;obtain⟨t,h2,h⟩:=zX h;rw[me h2]at h1;cases t with
 |false=>cases h;exact .stop h1
 |true=>
  rcases cM h with⟨v,h3,h4⟩|⟨L1,vQ,h3,h4⟩;.have:=hb _ _ _ h3;rw[h4]at this⊢;exact .ret h1 this
  .exact .turn h1 (hb _ _ _ h3) (Un hc q s d hb m L1 vQ r h4)
theorem YN{F:Fr}{xs:List Nat}{t:IT}{l:List V}{b:S}{f:xU}(hb:∀L J r,f L J=JS r->XB F L b J (.ok (ph r.1) r.2.1 r.2.2))(hi:∀zy,tO t l zy=JQ->t.is l zy):∀(ys:List V)(L:Loc)(J:St)(r:Option V×Loc×St),(∃pre,l=pre++ys)->dT f xs t l ys L J=JS r->FL F xs t l b ys.length L J (.ok (ph r.1) r.2.1 r.2.2)
|[],L,J,r,zo,h=>by obtain⟨h1,h⟩:=yV (show yl (tO t l J) (JS (none,L,J))=JS r from h);cases h;exact .stop (hi _ h1)
|x::ys,L,J,r,⟨pre,hp⟩,h=>by
 obtain⟨h1,h⟩:=yV (show yl (tO t l J) _=JS r from h);obtain⟨L1,h2,h⟩:=zX h;rw[xG]at h;have hx:l[l.length-(ys.length+1)]?=JS x:=by rewrite[hp];rewrite[JO];rewrite[ID];rewrite[GK];rewrite[I_ (JK _)];rw[Hn];rfl
 rcases cM h with⟨v,h3,h4⟩|⟨L2,vQ,h3,h4⟩;.have:=hb _ _ _ h3;rw[h4]at this⊢;exact .ret (hi _ h1) hx h2 this
 .exact .turn (hi _ h1) hx h2 (hb _ _ _ h3) (YN hb hi ys L2 vQ r ⟨pre++[x],by rewrite[hp];rw[J'];rfl⟩ h4)
theorem Vc(hc:mY z_ n)(b:S):SB z_ n b:=by
 induction b with
 |qh=>exact .of wY rfl λF L zz zz zz J r h=>nomatch h
 |nil=>exact⟨λF L zz zz zz J r h=>(nomatch h),λF L zz zz zz J r h=>by cases h;exact zj⟩
 |cons s r is ir=>
  refine⟨λF L zz zz zz J r h=>(nomatch h),λF L q e d J w h=>?_⟩;rcases cM (show my (vZ z_ s).1 (vZ z_ r).2 L J=JS w from h)with⟨v,h1,h2⟩|⟨L1,z8,h1,h2⟩;.obtain this:=is.x F L q e d _ _ h1;rw[h2]at this⊢;exact zT this
  .exact zr (is.x F L q e d _ _ h1) (ir.b F L1 q e d _ _ h2)
 |expr e=>refine .of (UI z_ e) rfl λF L q s d J r h=>?_;obtain⟨v,z8,h1,h⟩:=w4 hc q s d h;rw[m5 h];exact yJ h1
 |ret e=>refine .of (UG z_ e) rfl λF L q s d J r h=>?_;obtain⟨v,z8,h1,h⟩:=w4 hc q s d h;cases h;exact zL h1
 |asg x e=>refine .of (UP z_ x e) rfl λF L q s d J r h=>?_;obtain⟨h0,h⟩:=yV h;obtain⟨v,z8,h1,h⟩:=w4 hc q s d h;rw[m5 h];exact yu h1 h0
 |yD xs e=>refine .of (UL z_ xs e) rfl λF L q s d J r h=>?_;obtain⟨v,z8,h1,h⟩:=w4 hc q s d h;obtain⟨vs,h2,h⟩:=zX h;obtain⟨L1,h3,h⟩:=zX h;obtain⟨h4,h⟩:=yV h;rw[kM h2]at h1;rw[m5 h];exact uC q h1 h3 (of_decide_eq_true h4)
 |zC o x e=>refine .of (UO z_ o x e) rfl λF L q s d J r h=>?_;obtain⟨v,z8,h1,h⟩:=w4 hc q s d h;obtain⟨ov,vQ,h2,h⟩:=w4 hc q s d h;obtain⟨n,h3,h⟩:=zX h;obtain⟨p,h4,h⟩:=zX h;obtain⟨h5,h⟩:=yV h;obtain⟨h6,h7⟩:=zh h5;rw[vc h3]at h2;rw[Va h];exact rE s h1 h2 (l8 h4) h6 h7
 |y7 o i e=>refine .of (UN z_ o i e) rfl λF L q s d J r h=>?_;obtain⟨v,z8,h1,h⟩:=w4 hc q s d h;obtain⟨ov,vQ,h2,h⟩:=w4 hc q s d h;obtain⟨iv,rC,h3,h⟩:=w4 hc q s d h;obtain⟨n,h4,h⟩:=zX h;obtain⟨k,h5,h⟩:=zX h;obtain⟨es,h6,h⟩:=zX h;obtain⟨h7,h⟩:=yV h;replace h:=cK.symm.trans h;rw[vc h4]at h2;rw[uu h5]at h3;rw[m5 h];exact ot s h1 h2 h3 (ub h6) h7
 |mO o i o' i' e=>refine .of (UM z_ o i o' i' e) rfl λF L q s d J r h=>?_;obtain⟨v,z8,h1,h⟩:=w4 hc q s d h;obtain⟨ws,h2,h⟩:=zX h;obtain⟨p,h3,h⟩:=zX h;obtain⟨ov,vQ,h4,h⟩:=w4 hc q s d h;obtain⟨iv,rC,h5,h⟩:=w4 hc q s d h;obtain⟨n,h6,h⟩:=zX h;obtain⟨k,h7,h⟩:=zX h;obtain⟨es,h8,h⟩:=zX h;obtain⟨h9,h⟩:=yV h;replace h:=cK.symm.trans h;obtain⟨kq,UA,g4,h⟩:=w4 hc q s d h;obtain⟨lI,b_,g5,h⟩:=w4 hc q s d h;obtain⟨n',g6,h⟩:=zX h;obtain⟨k',g7,h⟩:=zX h;obtain⟨uN,g8,h⟩:=zX h;obtain⟨g9,h⟩:=yV h;replace h:=cK.symm.trans h;rw[kM h2,Y3 h3]at h1;rw[vc h6]at h4;rw[uu h7]at h5;rw[vc g6]at g4;rw[uu g7]at g5;rw[m5 h];exact KX q h1 h4 h5 (cI s (ub h8) h9) g4 g5 (cI s (ub g8) g9)
 |qG o x e=>refine .of (UK z_ o x e) rfl λF L q s d J r h=>?_;obtain⟨ov,z8,h1,h⟩:=w4 hc q s d h;obtain⟨n,h2,h⟩:=zX h;obtain⟨p,h3,h⟩:=zX h;obtain⟨w,h4,h⟩:=zX h;obtain⟨i,h5,h⟩:=zX h;obtain⟨u,vQ,h6,h⟩:=w4 hc q s d h;obtain⟨j,h7,h⟩:=zX h;obtain⟨p',h8,h⟩:=zX h;obtain⟨h9,h⟩:=yV h;obtain⟨k1,k2⟩:=zh h9;obtain⟨k3,k4⟩:=zh k2;rw[YM]at h;rw[vc h2]at h1;rw[kN h5]at h4;rw[kN h7]at h6;obtain h8:=l8 h8;rw[<-JD k3]at h8;rw[Va h];exact bp s h1 (l8 h3) k1 h4 h6 h8 k4
 |cond c a b ia ib=>refine .of (UJ z_ c (vZ z_ a).2 (vZ z_ b).2) rfl λF L q s d J r h=>?_;obtain⟨v,z8,h1,h⟩:=w4 hc q s d h;obtain⟨t,h2,h⟩:=zX h;rw[me h2]at h1;cases t with|true=>exact ye h1 (ia.b F L q s d _ _ h)|false=>exact zO h1 (ib.b F L q s d _ _ h)
 |«while» c b ib=>exact .of (lE z_ c (vZ z_ b).2 12) rfl λF L q s d J r h=>oj (Un hc q s d (λL J r h=>ib.b F L q s d J r h) 12 L J r h)
 |«for» xs k m b ib=>
  refine .of (UH z_ xs k m (vZ z_ b).2) rfl λF L q s d J r h=>?_;obtain⟨h0,h⟩:=yV h;obtain⟨v,z8,h1,h⟩:=w4 hc q s d h;obtain⟨t,h2,h⟩:=zX h;obtain⟨h3,hz⟩:=yV h;obtain⟨i1,i2,i3⟩:=XT h2;have hk:k=t.1.k:=by rw[i3];cases k<;>first|rfl|cases h0
  rw[i1]at h1;rw[Ii]at h3;subst hk;exact xe q h1 i2 h3 (YN (λL J r h=>ib.b F L q s d J r h) (λzy hi=>XU i2 hi) t.2 L z8 r ⟨[],rfl⟩ hz)
 |raise e=>exact .of wY rfl λF L zz zz zz J r h=>nomatch h
 |«try» b x h ib=>exact .of wY rfl λF L zz zz zz J r h=>nomatch h
end
theorem gQ:∀n,mY (m' n) (2*n)
|0=>λF zz zz zz fv args J r h=>nomatch h
|n+1=>λF hq hs hd fv args J r h=>by
 have IH:=gQ n;obtain⟨b,q,s,d⟩:=F;have hq:q=JT:=hq;have hs:s=JT:=hs;subst hq hs;have hd:2*(n+1)<=d:=hd;obtain⟨e,rfl⟩:∃e,d=e+2:=⟨d-2,by lia⟩;cases fv with
 |fn a=>obtain⟨fd,h1,h⟩:=zX (show(prog.fn a).bind (λfd=>(uo fd.params fd.dflt args).bind λL=>(xt L λL=>(vZ (m' n) fd.body).2 L J).bind λr=>JS (r.1.getD .none,r.2.2))=JS r from h);obtain⟨L,h2,h⟩:=zX h;obtain⟨w,h3,h⟩:=zX h;rw[xG]at h3;cases h;have hx:=(Vc IH fd.body).b ⟨b,JT,JT,e+1⟩ L rfl rfl (show 2*n<=e+1 by lia) _ _ h3;obtain⟨o,L1,z8⟩:=w;cases o with|none=>exact vK h1 h2 hx|some v=>exact zI h1 h2 hx
 |cl c=>
  obtain⟨p,h1,h⟩:=zX (show(prog.cls c).bind (λp=>yl (!p.2) ((prog.fn p.1).bind λfd=>qp J.length λn1=>(uo fd.params fd.dflt (.ref n1::args)).bind λL=>(xt L λL=>xt (J++[.inst c []]) λoZ=>(vZ (m' n) fd.body).2 L oZ).bind λr=>yl r.1.isNone (JS (.ref n1,r.2.2))))=JS r from h);obtain⟨h2,h⟩:=yV h;obtain⟨fd,h3,h⟩:=zX h;rw[oE]at h;obtain⟨L,h4,h⟩:=zX h;obtain⟨w,h5,h⟩:=zX h;obtain⟨h6,h⟩:=yV h;rw[xG,xG]at h5;cases h;obtain⟨fi,x⟩:=p;have hx:x=JT:=by rw[Ii]at h2;exact h2
  subst hx;have hx:=(Vc IH fd.body).b ⟨b,JT,JT,e⟩ L rfl rfl (show 2*n<=e by lia) _ _ h5;obtain⟨o,L1,z8⟩:=w;cases o with|none=>exact oD h1 h3 h4 hx|some v=>cases h6
 |bi f=>
  cases args with
  |nil=>cases h
  |cons a0 rest=>
   cases f with
   |nQ=>obtain⟨m,h1,h⟩:=zX (show(xM a0).bind (λm=>(sg rest).bind λv=>(uE J[m]?).bind λxs=>yl (short xs) (xt (xs++[v]) λl=>xt (J.set m (.list l)) λz8=>JS (V.none,z8)))=JS r from h);obtain⟨v,h2,h⟩:=zX h;obtain⟨xs,h3,h⟩:=zX h;obtain⟨h4,h⟩:=yV h;rw[xG,xG]at h;cases h;rewrite[vc h1];rw[i7 h2];exact pH rfl (p8 h3) h4
   |zG=>
    obtain⟨m,h1,h⟩:=zX (show(xM a0).bind _=JS r from h);rw[vc h1];cases rest with
    |nil=>cases h
    |cons k0 r2=>
     obtain⟨k,h2,h⟩:=zX h;obtain⟨es,h3,h⟩:=zX h;have h3:J[m]?=JS (.dict es)\/J[m]?=JS (.v7 es):=by cases hd:wJ J[m]? with|some e'=>rw[hd]at h3;cases h3;exact .inl (ub hd)|none=>rw[hd]at h3;exact .inr (dA h3)
     rw[uu h2];cases r2 with|nil=>cases h;exact qe h3|cons dv r3=>obtain⟨h4,h⟩:=yV h;cases h;rw[Fz.mp h4];exact lC h3
   |m9=>obtain⟨m,h1,h⟩:=zX (show(xM a0).bind (λn=>(sg rest).bind λv=>(xM v).bind λm=>(wJ J[n]?).bind λes=>(wJ J[m]?).bind λfs=>yl (!JG m n&&short (es++fs)) (xt (u2 fs es) λds=>xt (J.set n (.dict ds)) λz8=>JS (V.none,z8)))=JS r from h);obtain⟨v,h2,h⟩:=zX h;obtain⟨m2,h3,h⟩:=zX h;obtain⟨es,h4,h⟩:=zX h;obtain⟨fs,h5,h⟩:=zX h;obtain⟨h6,h⟩:=yV h;obtain⟨h7,h8⟩:=zh h6;rw[xG,xG]at h;cases h;rewrite[vc h1];rewrite[i7 h2];rw[vc h3];exact NX rfl (ub h4) (ub h5) (λe=>by rw[e,Gz]at h7;cases h7) h8
   |_=>
    exact absurd h (by
     obtain hv|hv:xM a0=none\/∃m,xM a0=JS m:=by(cases xM a0;exact .inl rfl;exact .inr ⟨_,rfl⟩)
     .intro h;obtain⟨_,h1,_⟩:=zX h;replace h1:=hv.symm.trans h1;cases h1
     .intro h;obtain⟨_,_,h2⟩:=zX h;cases h2)
 |ty t=>obtain⟨a0,h1,h⟩:=zX (show(sg args).bind _=JS r from h);obtain⟨m,h2,h⟩:=zX h;rewrite[i7 h1];rw[vc h2];cases t with|list=>obtain⟨es,h3,h⟩:=zX h;obtain⟨h4,h⟩:=yV h;rw[xG,xG,oE]at h;cases h;exact RA rfl (ub h3) h4|dict=>obtain⟨l,h3,h⟩:=zX h;obtain⟨ps,h4,h⟩:=zX h;obtain⟨h5,h⟩:=yV h;rw[xG,xG,oE]at h;cases h;rw[OB h4]at h3;exact RB rfl (p8 h3) h5|_=>cases h
 |_=>cases h
noncomputable def nC(x2 x3 x4 x5 x6 x7 x8:List V):St:=[.v7 oN,.v7 nJ,.qE x2,.list x3,.list x4,.list x5,.list x6,.list x7,.list x8]
noncomputable def modS:St:=[(.dict [([66,97,115,105,99,79,98,106,101,99,116],.none),([75,101,114,110,101,108],.none),([79,98,106,101,99,116],(.str [66,97,115,105,99,79,98,106,101,99,116])),([77,111,100,117,108,101],(.str [79,98,106,101,99,116])),([67,108,97,115,115],(.str [77,111,100,117,108,101])),([65],(.str [79,98,106,101,99,116])),([66],(.str [65])),([67],(.str [65])),([77],.none),([78],.none),([60,97,62],(.str [65])),([60,99,62],(.str [66])),([60,77,62],(.str [77,111,100,117,108,101])),([60,66,97,115,105,99,79,98,106,101,99,116,62],(.str [67,108,97,115,115])),([60,79,98,106,101,99,116,62],(.str [60,66,97,115,105,99,79,98,106,101,99,116,62])),([60,65,62],(.str [60,79,98,106,101,99,116,62])),([60,66,62],(.str [60,65,62])),([60,67,62],(.str [60,65,62]))]),(.dict [([65],(.str [79,98,106,101,99,116])),([66],(.str [65])),([67],(.str [65])),([77],.none),([78],.none),([60,97,62],(.str [65])),([60,99,62],(.str [66])),([60,77,62],(.str [77,111,100,117,108,101]))]),(.dict [([60,66,97,115,105,99,79,98,106,101,99,116,62],(.str [67,108,97,115,115])),([60,79,98,106,101,99,116,62],(.str [60,66,97,115,105,99,79,98,106,101,99,116,62])),([60,65,62],(.str [60,79,98,106,101,99,116,62])),([60,66,62],(.str [60,65,62])),([60,67,62],(.str [60,65,62]))]),(.list [(.tup [(.str [66,97,115,105,99,79,98,106,101,99,116]),(.ref 16)]),(.tup [(.str [75,101,114,110,101,108]),(.ref 20)]),(.tup [(.str [79,98,106,101,99,116]),(.ref 24)]),(.tup [(.str [77,111,100,117,108,101]),(.ref 28)]),(.tup [(.str [67,108,97,115,115]),(.ref 32)]),(.tup [(.str [65]),(.ref 36)]),(.tup [(.str [66]),(.ref 40)]),(.tup [(.str [67]),(.ref 44)]),(.tup [(.str [77]),(.ref 48)]),(.tup [(.str [78]),(.ref 52)]),(.tup [(.str [60,97,62]),(.ref 56)]),(.tup [(.str [60,99,62]),(.ref 60)]),(.tup [(.str [60,77,62]),(.ref 64)]),(.tup [(.str [60,66,97,115,105,99,79,98,106,101,99,116,62]),(.ref 68)]),(.tup [(.str [60,79,98,106,101,99,116,62]),(.ref 72)]),(.tup [(.str [60,65,62]),(.ref 76)]),(.tup [(.str [60,66,62]),(.ref 80)]),(.tup [(.str [60,67,62]),(.ref 84)])]),(.list []),(.list []),(.dict []),(.list [.none,(.ref 13),(.ref 14),(.ref 15)]),(.list []),(.list []),(.dict []),(.list [.none,(.ref 17),(.ref 18),(.ref 19)]),(.list []),(.list [(.str [75,101,114,110,101,108])]),(.dict []),(.list [(.str [66,97,115,105,99,79,98,106,101,99,116]),(.ref 21),(.ref 22),(.ref 23)]),(.list []),(.list []),(.dict []),(.list [(.str [79,98,106,101,99,116]),(.ref 25),(.ref 26),(.ref 27)]),(.list []),(.list []),(.dict []),(.list [(.str [77,111,100,117,108,101]),(.ref 29),(.ref 30),(.ref 31)]),(.list []),(.list []),(.dict []),(.list [(.str [79,98,106,101,99,116]),(.ref 33),(.ref 34),(.ref 35)]),(.list []),(.list []),(.dict []),(.list [(.str [65]),(.ref 37),(.ref 38),(.ref 39)]),(.list []),(.list []),(.dict []),(.list [(.str [65]),(.ref 41),(.ref 42),(.ref 43)]),(.list []),(.list []),(.dict []),(.list [.none,(.ref 45),(.ref 46),(.ref 47)]),(.list []),(.list []),(.dict []),(.list [.none,(.ref 49),(.ref 50),(.ref 51)]),(.list []),(.list []),(.dict []),(.list [(.str [65]),(.ref 53),(.ref 54),(.ref 55)]),(.list []),(.list []),(.dict []),(.list [(.str [66]),(.ref 57),(.ref 58),(.ref 59)]),(.list []),(.list []),(.dict []),(.list [(.str [77,111,100,117,108,101]),(.ref 61),(.ref 62),(.ref 63)]),(.list []),(.list []),(.dict []),(.list [(.str [67,108,97,115,115]),(.ref 65),(.ref 66),(.ref 67)]),(.list []),(.list []),(.dict []),(.list [(.str [60,66,97,115,105,99,79,98,106,101,99,116,62]),(.ref 69),(.ref 70),(.ref 71)]),(.list []),(.list []),(.dict []),(.list [(.str [60,79,98,106,101,99,116,62]),(.ref 73),(.ref 74),(.ref 75)]),(.list []),(.list []),(.dict []),(.list [(.str [60,65,62]),(.ref 77),(.ref 78),(.ref 79)]),(.list []),(.list []),(.dict []),(.list [(.str [60,65,62]),(.ref 81),(.ref 82),(.ref 83)]),(.dict [([66,97,115,105,99,79,98,106,101,99,116],(.ref 16)),([75,101,114,110,101,108],(.ref 20)),([79,98,106,101,99,116],(.ref 24)),([77,111,100,117,108,101],(.ref 28)),([67,108,97,115,115],(.ref 32)),([65],(.ref 36)),([66],(.ref 40)),([67],(.ref 44)),([77],(.ref 48)),([78],(.ref 52)),([60,97,62],(.ref 56)),([60,99,62],(.ref 60)),([60,77,62],(.ref 64)),([60,66,97,115,105,99,79,98,106,101,99,116,62],(.ref 68)),([60,79,98,106,101,99,116,62],(.ref 72)),([60,65,62],(.ref 76)),([60,66,62],(.ref 80)),([60,67,62],(.ref 84))])]
noncomputable def ax:St:=[(.dict []),(.dict []),(.inst 899 [(107,(.ref 86)),(98,(.ref 87)),(110,.none),(120,(.int 1000000)),(162,(.int 0)),(128,(.int 12)),(179,(.int 8)),(184,(.ref 89)),(76,(.ref 90)),(99,(.int 0)),(183,(.int 0)),(170,(.ref 91)),(156,(.ref 92)),(124,(.bool JQ)),(157,(.ref 128))]),(.dict []),(.dict [([79,98,106,101,99,116],(.ref 93)),([66,97,115,105,99,79,98,106,101,99,116],(.ref 99)),([67,108,97,115,115],(.ref 105)),([77,111,100,117,108,101],(.ref 111)),([75,101,114,110,101,108],(.ref 121))]),(.dict []),(.list []),(.inst 228 [(17,(.int 2)),(18,(.ref 105)),(114,(.ref 94)),(24,.none),(106,(.bool JT)),(104,.none),(0,(.str [79,98,106,101,99,116])),(21,(.bool JQ)),(11,(.ref 99)),(42,.none),(19,(.ref 95)),(174,(.ref 96)),(80,(.ref 120)),(94,(.ref 98)),(41,.none),(34,(.str [79,98,106,101,99,116])),(61,.none)]),(.dict []),(.dict []),(.dict []),(.list []),(.list []),(.inst 228 [(17,(.int 3)),(18,(.ref 105)),(114,(.ref 100)),(24,.none),(106,(.bool JT)),(104,.none),(0,(.str [66,97,115,105,99,79,98,106,101,99,116])),(21,(.bool JQ)),(11,.none),(42,.none),(19,(.ref 101)),(174,(.ref 102)),(80,(.ref 119)),(94,(.ref 104)),(41,.none),(34,(.str [66,97,115,105,99,79,98,106,101,99,116])),(61,.none)]),(.dict []),(.dict []),(.dict []),(.list []),(.list []),(.inst 228 [(17,(.int 4)),(18,(.ref 105)),(114,(.ref 106)),(24,.none),(106,(.bool JT)),(104,.none),(0,(.str [67,108,97,115,115])),(21,(.bool JQ)),(11,(.ref 111)),(42,.none),(19,(.ref 107)),(174,(.ref 108)),(80,(.ref 118)),(94,(.ref 110)),(41,.none),(34,(.str [67,108,97,115,115])),(61,.none)]),(.dict []),(.dict []),(.dict []),(.list []),(.list []),(.inst 228 [(17,(.int 5)),(18,(.ref 105)),(114,(.ref 112)),(24,.none),(106,(.bool JT)),(104,.none),(0,(.str [77,111,100,117,108,101])),(21,(.bool JQ)),(11,(.ref 93)),(42,.none),(19,(.ref 113)),(174,(.ref 114)),(80,(.ref 117)),(94,(.ref 116)),(41,.none),(34,(.str [77,111,100,117,108,101])),(61,.none)]),(.dict []),(.dict []),(.dict []),(.list []),(.list []),(.list []),(.list []),(.list []),(.list [(.ref 121)]),(.inst 228 [(17,(.int 6)),(18,(.ref 111)),(114,(.ref 122)),(24,.none),(106,(.bool JT)),(104,.none),(0,(.str [75,101,114,110,101,108])),(21,(.bool JT)),(11,.none),(42,.none),(19,(.ref 123)),(174,(.ref 124)),(80,(.ref 127)),(94,(.ref 126)),(41,.none),(34,(.str [75,101,114,110,101,108])),(61,.none)]),(.dict []),(.dict []),(.dict []),(.list []),(.list []),(.list []),(.inst 40 [(17,(.int 1)),(18,(.ref 93)),(114,(.ref 129)),(24,.none),(106,(.bool JT)),(104,.none)]),(.dict []),(.list [(.str [79,98,106,101,99,116]),(.str [66,97,115,105,99,79,98,106,101,99,116]),(.str [67,108,97,115,115]),(.str [77,111,100,117,108,101]),(.str [75,101,114,110,101,108])]),(.list [(.str [79,98,106,101,99,116]),(.str [67,108,97,115,115]),(.str [75,101,114,110,101,108])]),(.list [(.tup [(.str [79,98,106,101,99,116]),(.ref 93)]),(.tup [(.str [67,108,97,115,115]),(.ref 105)]),(.tup [(.str [75,101,114,110,101,108]),(.ref 121)])]),(.dict [([79,98,106,101,99,116],(.ref 93)),([67,108,97,115,115],(.ref 105)),([75,101,114,110,101,108],(.ref 121)),([65],(.ref 135)),([66],(.ref 141)),([77],(.ref 148)),([78],(.ref 154)),([97],(.ref 160)),([99],(.ref 162))]),(.list [(.tup [(.str [65]),(.str [79,98,106,101,99,116])]),(.tup [(.str [66]),(.str [65])])]),(.inst 228 [(17,(.int 7)),(18,(.ref 105)),(114,(.ref 136)),(24,.none),(106,(.bool JT)),(104,.none),(0,(.str [65])),(21,(.bool JQ)),(11,(.ref 93)),(42,.none),(19,(.ref 137)),(174,(.ref 138)),(80,(.ref 139)),(94,(.ref 140)),(41,.none),(34,.none),(61,.none)]),(.dict []),(.dict []),(.dict []),(.list []),(.list []),(.inst 228 [(17,(.int 8)),(18,(.ref 105)),(114,(.ref 142)),(24,.none),(106,(.bool JT)),(104,.none),(0,(.str [66])),(21,(.bool JQ)),(11,(.ref 135)),(42,.none),(19,(.ref 143)),(174,(.ref 144)),(80,(.ref 145)),(94,(.ref 146)),(41,.none),(34,.none),(61,.none)]),(.dict []),(.dict []),(.dict []),(.list []),(.list []),(.list [(.str [77]),(.str [78])]),(.inst 228 [(17,(.int 9)),(18,(.ref 111)),(114,(.ref 149)),(24,.none),(106,(.bool JT)),(104,.none),(0,(.str [77])),(21,(.bool JT)),(11,.none),(42,.none),(19,(.ref 150)),(174,(.ref 151)),(80,(.ref 152)),(94,(.ref 153)),(41,.none),(34,.none),(61,.none)]),(.dict []),(.dict []),(.dict []),(.list []),(.list []),(.inst 228 [(17,(.int 10)),(18,(.ref 111)),(114,(.ref 155)),(24,.none),(106,(.bool JT)),(104,.none),(0,(.str [78])),(21,(.bool JT)),(11,.none),(42,.none),(19,(.ref 156)),(174,(.ref 157)),(80,(.ref 158)),(94,(.ref 159)),(41,.none),(34,.none),(61,.none)]),(.dict []),(.dict []),(.dict []),(.list []),(.list []),(.inst 40 [(17,(.int 11)),(18,(.ref 135)),(114,(.ref 161)),(24,.none),(106,(.bool JT)),(104,.none)]),(.dict []),(.inst 40 [(17,(.int 12)),(18,(.ref 141)),(114,(.ref 163)),(24,.none),(106,(.bool JT)),(104,.none)]),(.dict [])]
theorem RP(x2 x3 x4 x5 x6 x7 x8:List V):m' 18 (.fn 908) [] (nC x2 x3 x4 x5 x6 x7 x8)=JS (.ref 85,nC x2 x3 x4 x5 x6 x7 x8++modS):=by kernel_rfl
theorem RQ(x2 x3 x4 x5 x6 x7 x8:List V):m' 18 (.fn 989) [] (nC x2 x3 x4 x5 x6 x7 x8++modS)=JS (.tup [.ref 88,.ref 133],(nC x2 x3 x4 x5 x6 x7 x8++modS)++ax):=by kernel_rfl
noncomputable def T0:Tb:=λi=>⟨λc=>if JG i 2&&!c then[1]else[],[]⟩
noncomputable def D0 : Dt where
  w := 88
  kn := 133
  zE := 0
  ad := tab 1000 [99, 121, 93, 111, 105, 135, 141, 1000, 148, 154, 1000, 1000, 1000, 1000, 1000, 1000, 1000, 1000, 1000, 1000, 160, 162]
  da := tab 1000 [101, 123, 95, 113, 107, 137, 143, 1000, 150, 156]
  la := fun c => match c with | JT => tab 1000 [119, 127, 120, 117, 118, 139, 145, 1000, 152, 158] | JQ => tab 1000 [104, 126, 98, 116, 110, 140, 146, 1000, 153, 159]
  on := fun i => Io i 7 || (JG i 8 || (JG i 9 || (JG i 20 || JG i 21)))
  nu := fun i => tab 0 [3, 6, 2, 5, 4, 7, 8, 0, 9, 10, 0, 0, 0, 0, 0, 0, 0, 0, 0, 0, 11, 12] i
  T := T0
noncomputable def Q0 (x8 : List V) : Mt where
  m := 85
  ro := fun i => 16 + 4 * i
  la := fun c i => match c with | JQ => 13 + 4 * i | JT => 14 + 4 * i
  da := fun i => 15 + 4 * i
  x := 8
  xs := x8
noncomputable def S0(x2 x3 x4 x5 x6 x7 x8:List V):St:=(nC x2 x3 x4 x5 x6 x7 x8++modS)++ax
noncomputable def tG:List Nat:=[0,1,2,3,4,5,6,8,9]
noncomputable def sM:List Nat:=[0,1,2,3,4,5,6,8,9,20,21]
theorem q_{i:Nat}(h:D0.on i=JQ):i∈sM:=by
 obtain h1:i<22:=I6 λq=>by obtain h:(Io i 7||(JG i 8||(JG i 9||(JG i 20||JG i 21))))=JQ:=h;simp only[Iq,Nat.beq_eq,Nat.blt_eq]at h;lia
 obtain this:∀i<22,D0.on i=JQ->i∈sM:=by decide+kernel
 exact this i h1 h
theorem rN{i:Nat}(h:D0.on i=JQ)(h8:i<18):i∈tG:=by
 obtain this:∀i∈sM,i<18->i∈tG:=by decide
 exact this i (q_ h) h8
theorem mapped{zi xJ:Type}{l:List zi}{f g:zi->xJ}(h:l.map f=l.map g):∀a∈l,f a=g a:=Ep.mp h
theorem VD : WF T0 where
  li := fun i c => by
    show (if JG i 2 && !c then [1] else []) ∈ vt c i
    cases q : JG i 2 && !c with
    | true =>
      obtain ⟨q1, q2⟩ := Gh.mp q
      rw [JD q1, show c = JT by cases c; rfl; cases q2]; decide +kernel
    | false =>
      unfold vt
      rw [q]
      split
      · exact .head _
      · split <;> exact .head _
  ks := fun zz zz h => nomatch h
  nd := fun zz => HZ
theorem LW : v9 D0 where
  inj := fun i j hi hj => by
    obtain this : ∀ i ∈ sM, ∀ j ∈ sM, D0.nu i = D0.nu j → i = j := by decide +kernel
    exact this i (q_ hi) j (q_ hj)
  lo := fun i hi => by
    obtain this : ∀ i ∈ sM, 88 + 5 ≤ D0.ad i ∧ (88 + 5 ≤ D0.da i ∧ ∀ c, 88 + 5 ≤ D0.la c i) := by decide +kernel
    exact let ⟨a, b, c⟩ := this i (q_ hi); ⟨a, b, c⟩
  w2 := by decide
  kn := by decide
  di := fun i j hi hj h1 h2 => by
    obtain this : ∀ i ∈ tG, ∀ j ∈ tG, D0.da i = D0.da j → i = j := by decide +kernel
    exact this i (rN hi h1) j (rN hj h2)
  dk := fun i hi h1 => by
    obtain this : ∀ i ∈ tG, D0.da i ≠ 133 := by decide +kernel
    exact this i (rN hi h1)
  li := fun i j c e hi hj h1 h2 => by
    obtain this : ∀ i ∈ tG, ∀ j ∈ tG, ∀ c e, D0.la c i = D0.la e j → i = j ∧ c = e := by decide +kernel
    exact this i (rN hi h1) j (rN hj h2) c e
  pm := fun i p hi h => by
    obtain this : ∀ i ∈ sM, (match par i with | JS p => D0.on p | none => JQ) = JQ := by decide +kernel
    obtain this := this i (q_ hi)
    rw [h] at this; exact this
  om := by
    obtain this : ∀ i < 10, i ≠ 7 → D0.on i = JQ := by decide +kernel
    exact this
  tm := ⟨rfl, rfl⟩
  bd := fun i hi => by
    have : ∀ i ∈ sM, i < 18 ∨ i = 20 ∨ i = 21 := by decide
    exact this i (q_ hi)
  un := fun zz zz => ⟨fun zz => rfl, rfl⟩
  a7 := fun h => nomatch h
  wf := VD
section
variable(x2 x3 x4 x5 x6 x7 x8:List V)
theorem Lq : r6 (S0 x2 x3 x4 x5 x6 x7 x8) D0 [([79, 98, 106, 101, 99, 116], .ref 93), ([66, 97, 115, 105, 99, 79, 98, 106, 101, 99, 116], .ref 99), ([67, 108, 97, 115, 115], .ref 105), ([77, 111, 100, 117, 108, 101], .ref 111), ([75, 101, 114, 110, 101, 108], .ref 121)] where
  j := fun j hj => mapped (l := IF 5) (f := fun j => zG (wK j) [([79, 98, 106, 101, 99, 116], V.ref 93), ([66, 97, 115, 105, 99, 79, 98, 106, 101, 99, 116], .ref 99), ([67, 108, 97, 115, 115], .ref 105), ([77, 111, 100, 117, 108, 101], .ref 111), ([75, 101, 114, 110, 101, 108], .ref 121)]) (g := fun j => JS (.ref (D0.ad j))) (by kernel_rfl) j (Hw.mpr hj)
  e := fun s hs v hv => by
    obtain this := mapped (l := u0) (f := fun s => zG s [([79, 98, 106, 101, 99, 116], V.ref 93), ([66, 97, 115, 105, 99, 79, 98, 106, 101, 99, 116], .ref 99), ([67, 108, 97, 115, 115], .ref 105), ([77, 111, 100, 117, 108, 101], .ref 111), ([75, 101, 114, 110, 101, 108], .ref 121)]) (g := fun zz => none) (by kernel_rfl) s hs
    cases this.symm.trans hv
  nd := by decide +kernel
  ks := fun k hk => by
    obtain this : ∀ k ∈ [[79, 98, 106, 101, 99, 116], [66, 97, 115, 105, 99, 79, 98, 106, 101, 99, 116], [67, 108, 97, 115, 115], [77, 111, 100, 117, 108, 101], [75, 101, 114, 110, 101, 108]], k ∈ u0 ∨ ∃ j, j < 5 ∧ k = wK j := by decide +kernel
    exact this k hk
theorem Ln : RI (S0 x2 x3 x4 x5 x6 x7 x8) D0 where
  wo := ⟨12, .ref 128, by kernel_rfl, fun i hi => by
    obtain this : ∀ i ∈ sM, D0.nu i ≤ 12 := by decide +kernel
    exact this i (q_ hi)⟩
  md := ⟨_, by kernel_rfl, Lq x2 x3 x4 x5 x6 x7 x8⟩
  c0 := rfl
  c1 := rfl
  n0 := by kernel_rfl
  n1 := by kernel_rfl
  kn := by kernel_rfl
  oo := fun i hi h => ⟨.none, D0.da i - 1, D0.da i + 1, mapped (l := tG) (f := fun i => (S0 x2 x3 x4 x5 x6 x7 x8)[D0.ad i]?) (g := fun i => JS (.inst 228 (D0.w_ i (D0.da i - 1) (D0.da i + 1) .none))) (by kernel_rfl) i (rN hi h), .inl rfl⟩
  mm := fun i hi h => mapped (l := tG) (f := fun i => (S0 x2 x3 x4 x5 x6 x7 x8)[D0.da i]?) (g := fun i => JS (.dict [])) (by kernel_rfl) i (rN hi h)
  ee := fun i hi h p hp => nomatch hp
  ll := fun i c hi h => by
    cases c with
    | true => exact mapped (l := tG) (f := fun i => (S0 x2 x3 x4 x5 x6 x7 x8)[D0.la JQ i]?) (g := fun i => JS (.list (rf D0.ad ((T0 i).li JQ)))) (by kernel_rfl) i (rN hi h)
    | false => exact mapped (l := tG) (f := fun i => (S0 x2 x3 x4 x5 x6 x7 x8)[D0.la JT i]?) (g := fun i => JS (.list (rf D0.ad ((T0 i).li JT)))) (by kernel_rfl) i (rN hi h)
  th := fun i hi h => ⟨D0.ad i + 1, by
    obtain this : ∀ i ∈ sM, 18 ≤ i → i ∈ [20, 21] := by decide
    exact mapped (l := [20, 21]) (f := fun i => (S0 x2 x3 x4 x5 x6 x7 x8)[D0.ad i]?) (g := fun i => JS (.inst 40 (D0.tY i (D0.ad i + 1)))) (by kernel_rfl) i (this i (q_ hi) h)⟩
  s := LW
theorem Lp : MI (Q0 x8) 86 (S0 x2 x3 x4 x5 x6 x7 x8) T0 where
  m := by kernel_rfl
  r := fun i hi => mapped (l := IF 18) (f := fun i => (S0 x2 x3 x4 x5 x6 x7 x8)[16 + 4 * i]?) (g := fun i => JS (.list ((Q0 x8).row i))) (by kernel_rfl) i (Hw.mpr hi)
  l := fun i c hi => by
    cases c with
    | true => exact mapped (l := IF 18) (f := fun i => (S0 x2 x3 x4 x5 x6 x7 x8)[13 + 4 * i]?) (g := fun i => JS (.list (((T0 i).li JQ).map zU))) (by kernel_rfl) i (Hw.mpr hi)
    | false => exact mapped (l := IF 18) (f := fun i => (S0 x2 x3 x4 x5 x6 x7 x8)[14 + 4 * i]?) (g := fun i => JS (.list (((T0 i).li JT).map zU))) (by kernel_rfl) i (Hw.mpr hi)
  d := fun i hi => mapped (l := IF 18) (f := fun i => (S0 x2 x3 x4 x5 x6 x7 x8)[15 + 4 * i]?) (g := fun i => JS (.dict [])) (by kernel_rfl) i (Hw.mpr hi)
  lt := ⟨by show 85 < 86; decide, fun i hi => ⟨by show 16 + 4 * i < 86; lia, fun c => by
    cases c
    · show 14 + 4 * i < 86; lia
    · show 13 + 4 * i < 86; lia, by show 15 + 4 * i < 86; lia⟩⟩
  jl := fun i j c e zz zz h => by
    cases c <;> cases e
    · exact ⟨by obtain this : 14 + 4 * i = 14 + 4 * j := h; lia, rfl⟩
    · obtain this : 14 + 4 * i = 13 + 4 * j := h; lia
    · obtain this : 13 + 4 * i = 14 + 4 * j := h; lia
    · exact ⟨by obtain this : 13 + 4 * i = 13 + 4 * j := h; lia, rfl⟩
  jr := fun i j c zz zz h => by
    cases c
    · obtain this : 16 + 4 * i = 14 + 4 * j := h; lia
    · obtain this : 16 + 4 * i = 13 + 4 * j := h; lia
  jd := fun i j zz zz h => by obtain this : 15 + 4 * i = 15 + 4 * j := h; lia
  jm := fun i hi h => by obtain this : 15 + 4 * i = 85 := h; lia
  w := VD
  x := rfl
  lx := by show 8 < 86; decide
  jx := fun i c hi h => by
    cases c
    · obtain this : 14 + 4 * i = 8 := h; lia
    · obtain this : 13 + 4 * i = 8 := h; lia
theorem Lr:LS (Q0 x8) 86 88 133 JT (S0 x2 x3 x4 x5 x6 x7 x8) D0:=⟨Ln x2 x3 x4 x5 x6 x7 x8,Lp x2 x3 x4 x5 x6 x7 x8,rfl,rfl,rfl,rfl⟩
end
noncomputable def iZ(n:Int):Nat:=n.natAbs%10000000
noncomputable def vE(ns:List Int):List Nat:=(ns.take 7).map iZ
noncomputable def tI(ns:List Int):List Nat:=vE ns++(if ns.isEmpty then[2]else[])
noncomputable def w8(ns:List Int):List V:=ns.map V.int
noncomputable def S2(ns:List Int):St:=[.v7 oN,.v7 nJ,.qE (w8 ns)]
noncomputable def S3(ns:List Int):St:=S2 ns++[.list ((w8 ns).take 7)]
noncomputable def S4(ns:List Int)(l:List V):St:=S3 ns++[.list l]
section
variable{b:Bc}{d:Nat}{ns:List Int}
noncomputable def lL(ns:List Int):Loc:=[(97,.ref 2)]
theorem Wj:(tI ns).length<=7:=by unfold tI vE;cases ns with|nil=>decide|cons n r=>rewrite[JO];rewrite[JN];rw[Gk];show min 7 _+0<=7;lia
theorem Nn(h:ns.length<=1000):E ⟨b,JT,JT,d⟩ (lL ns) (.comp (.bin .mod (.call (.zu 118) (.cons (.loc 15) .nil)) (.bin .pow (.int 10) (.int 7))) [15] .plain (.p0 (.loc 97) (.int 7)) .nil) (S2 ns) (.ok (.ref 4) (S4 ns (yA (vE ns)))):=by
 obtain h7:((w8 ns).take 7).length<=7:=by rw[Gk];lia
 obtain⟨acc,zv,k,us,hu,hv,Oo⟩:=CL.go (F:=⟨b,JT,JT,d⟩) (L:=lL ns) (xs:=[15]) (t:=.list 3) (elt:=(.bin .mod (.call (.zu 118) (.cons (.loc 15) .nil)) (.bin .pow (.int 10) (.int 7)))) (yd:=.nil) (n0:=4) (l:=(w8 ns).take 7) (zs:=ns.take 7) (g:=λzz n=>V.int n) (by unfold w8;rewrite[<-F9];rw[JN]) (λp z e=>by unfold w8;rewrite[<-F9];rewrite[JF];rw[e];rfl) (P:=λp ys acc zv=>∃us,C3 (acc=yA us) (us++ys.map iZ=vE ns) (zv=S4 ns acc)) (λp ys acc zv⟨zo,zY,zH,e⟩=>e▸rfl) (by
  rintro p z ys acc zv hp hd⟨us,rfl,hu,rfl⟩;refine⟨_,_,rfl,.inr ⟨_,V.int ((iZ z:Nat):Int),.inl ⟨rfl,rfl⟩,yh (yC rfl (zx rfl) RC) (yh yw yw Sm) (qy (by decide)),rfl,?_,us++[iZ z],?_,?_,?_⟩⟩;.obtain this:=congrArg H6 hu;unfold vE at this;rw[JO,JN,JN,Gk]at this;exact xN (by unfold yA;rw[JN];lia)
  .unfold yA;rw[I0];rfl
  .rw[J'];exact hu
  .rfl) (ns.take 7).length 0 (ns.take 7) [] (S4 ns []) rfl rfl ⟨[],rfl,rfl,rfl⟩;rw[HJ,IV]at hv;subst hu hv Oo;rw[show(ns.take 7).length=((w8 ns).take 7).length by unfold w8;rewrite[<-F9];rw[JN]]at k;exact sj (t:=.list 3) rfl rfl rfl (RW (zx rfl) yw λt=>Lb (J:=S2 ns) (by decide) rfl (xN (by unfold w8;rw[JN];exact h))) rfl k
noncomputable def S8(ns:List Int):St:=nC (w8 ns) ((w8 ns).take 7) (yA (vE ns)) [.int 2] [] (if ns.isEmpty then[.int 2]else[]) (yA (tI ns))
theorem Xa:∀ns:List Int,(w8 ns).all (lvl 3)=JQ|[]=>rfl|zo::r=>Xa r
theorem Nh(h:ns.length<=1000):X1 ⟨b,JT,JT,d⟩ (lL ns) (.asg 25 (.bin .add (.comp (.bin .mod (.call (.zu 118) (.cons (.loc 15) .nil)) (.bin .pow (.int 10) (.int 7))) [15] .plain (.p0 (.loc 97) (.int 7)) .nil) (.bin .mul (.lst (.cons (.int 2) .nil)) (.call (.zu 45) (.cons (.cmp .eq (.loc 97) (.lst .nil)) .nil))))) (S2 ns) (.ok .next (st 25 (.ref 8) (lL ns)) (S8 ns)):=by have e2:E ⟨b,JT,JT,d⟩ (lL ns) (.lst (.cons (.int 2) .nil)) (S4 ns (yA (vE ns))) (.ok (.ref 5) (S4 ns (yA (vE ns))++[.list [.int 2]])):=y5 (zp yw zf) rfl;obtain e3:E ⟨b,JT,JT,d⟩ (lL ns) (.call (.zu 45) (.cons (.cmp .eq (.loc 97) (.lst .nil)) .nil)) (S4 ns (yA (vE ns))++[.list [.int 2]]) (.ok (.int (if ns.isEmpty then 1 else 0)) ((S4 ns (yA (vE ns))++[.list [.int 2]])++[.list []])):=yC rfl (zZ (zx rfl) (y5 zf rfl) (mI (m:=2) (n:=6) (xs:=w8 ns) (t:=ns.isEmpty) (.inr rfl) rfl (Xa ns) rfl (by cases ns<;>rfl)).1) YY;obtain e4:=yh e2 e3 (b6 (m:=5) rfl (by cases ns.isEmpty;exact .inl rfl;exact .inr rfl) rfl);obtain e5:=yh (Nn (b:=b) (d:=d) h) e4 (mM (m:=4) (n:=7) (xs:=yA (vE ns)) rfl rfl (xN (by rw[JO];unfold yA vE;rewrite[JN];rewrite[JN];rw[Gk];cases ns.isEmpty<;>show _+_<=1000<;>simp<;>lia)));obtain e6:=yu (x:=25) e5;rw[show yA (vE ns)++(if(if ns.isEmpty=JQ then(1:Int)else 0)=0 then[]else[V.int 2])=yA (tI ns)by unfold tI yA;rw[I0];cases ns.isEmpty<;>rfl,show(if(if ns.isEmpty=JQ then(1:Int)else 0)=0 then[]else[V.int 2])=(if ns.isEmpty=JQ then[V.int 2]else[])by cases ns.isEmpty<;>rfl]at e6;exact e6
theorem MV(h:ns.length<=1000):∃zv,Call ⟨b,JT,JT,41⟩ (.fn 994) [.ref 2] (S2 ns) (.ok (.bool JQ) zv):=by obtain c1:=gQ 18 ⟨b,JT,JT,40⟩ rfl rfl (show 36<=40 by decide) _ _ _ _ (RP (w8 ns) ((w8 ns).take 7) (yA (vE ns)) [.int 2] [] (if ns.isEmpty then[.int 2]else[]) (yA (tI ns)));obtain c2:=gQ 18 ⟨b,JT,JT,40⟩ rfl rfl (show 36<=40 by decide) _ _ _ _ (RQ (w8 ns) ((w8 ns).take 7) (yA (vE ns)) [.int 2] [] (if ns.isEmpty then[.int 2]else[]) (yA (tI ns)));obtain x1:X1 ⟨b,JT,JT,40⟩ (st 25 (.ref 8) (lL ns)) (.yD [7,37] (.tup (.cons (.call (.zu 177) .nil) (.cons (.cmp .lt (.call (.zu 31) (.cons (.loc 25) .nil)) (.int 2)) .nil)))) (S8 ns) _:=uC (F:=⟨b,JT,JT,40⟩) (vs:=[.ref 85,.bool (decide (((yA (tI ns)).length:Int)<2))]) rfl (x_ (zp (y6 (fv:=.fn 908) (yp rfl) zf c1) (zp (zZ (yC rfl (zx rfl) (pj (n:=8) rfl (xN (by unfold yA;rw[JN];exact J4 Wj (by decide))))) yw jy) zf)) rfl) rfl;obtain x2:X1 ⟨b,JT,JT,40⟩ _ (.yD [1,9] (.call (.zu 178) .nil)) _ _:=uC (F:=⟨b,JT,JT,40⟩) (L:=st 37 (.bool (decide (((yA (tI ns)).length:Int)<2))) (st 7 (.ref 85) (st 25 (.ref 8) (lL ns)))) (xs:=[1,9]) rfl (y6 (fv:=.fn 989) (yp rfl) zf c2) rfl;obtain⟨L',zv,x3⟩:=O4 (b:=b) (d:=16) (Lr (w8 ns) ((w8 ns).take 7) (yA (vE ns)) [.int 2] [] (if ns.isEmpty then[.int 2]else[]) (yA (tI ns))) rfl rfl (L:=st 9 (.ref 133) (st 1 (.ref 88) (st 37 (.bool (decide (((yA (tI ns)).length:Int)<2))) (st 7 (.ref 85) (st 25 (.ref 8) (lL ns)))))) ⟨rfl,rfl,rfl,rfl,rfl⟩ Wj;exact⟨zv,zI (d:=40) rfl rfl (zr (Nh h) (zr x1 (zr x2 x3)))⟩
end
open PySem PySem.W PySem.Calls PyProof.Rows
noncomputable def z0:FM:=λn=>if n=0 then JS 633 else if n=1 then JS 636 else none
noncomputable def wu(w:World)(B:Im):Bc:=⟨pw,w,B,z0,KL w.params,Xs⟩
noncomputable def aw:{k:FuncData->List JM->Option (Array JM)->Sem (List (Str×JM))//∀fd vals,bindArgs fd ⟨vals,[]⟩=seqItems? fd.defaults>>=k fd vals}:=⟨_,λfd vals=>rfl⟩
theorem xc{s:JI}{fd:FuncData}{vals:List JM}{T:J0}{o:Obj}{items:Array JM}{n:Nat}{binds:List (Str×JM)}(hd:fd.defaults=.ref T)(ho:s.heap.get? T=JS o)(hs:o.data=.seq items n)(h:aw.1 fd vals (JS items)=pure binds):BindsTo s fd ⟨vals,[]⟩ binds:=BindsTo.of_defaults hd ho hs (aw.2 fd vals) h
section
variable{P:List JM->Prop}{l n:Nat}
theorem len0(h:P []):∀l,l.length=0->P l:=λl e=>List.eq_nil_of_length_eq_zero e▸h
theorem d_(h:∀a,P [a]):∀l,l.length=1->P l|a::l,e=>len0 (P:=λl=>P (a::l)) (h a) l (I1 e)
theorem uI(h:∀a b,P [a,b]):∀l,l.length=2->P l|a::l,e=>d_ (P:=λl=>P (a::l)) (h a) l (I1 e)
theorem uH(h:∀a b c,P [a,b,c]):∀l,l.length=3->P l|a::l,e=>uI (P:=λl=>P (a::l)) (h a) l (I1 e)
theorem qg(h:∀a b c d,P [a,b,c,d]):∀l,l.length=4->P l|a::l,e=>uH (P:=λl=>P (a::l)) (h a) l (I1 e)
theorem lG(h:∀a b c d e,P [a,b,c,d,e]):∀l,l.length=5->P l|a::l,e=>qg (P:=λl=>P (a::l)) (h a) l (I1 e)
theorem ij(h:∀a b c d e f,P [a,b,c,d,e,f]):∀l,l.length=6->P l|a::l,e=>lG (P:=λl=>P (a::l)) (h a) l (I1 e)
theorem X7(h:∀a b c d e f g,P [a,b,c,d,e,f,g]):∀l,l.length=7->P l|a::l,e=>ij (P:=λl=>P (a::l)) (h a) l (I1 e)
theorem mL(h1:l<=n+1)(h2:n+1<=l+1):l=n\/l=n+1:=by omega
theorem gW(h1:l<=n+3)(h2:n+3<=l+3):l=n\/l=n+1\/l=n+2\/l=n+3:=by omega
theorem S_(h1:l<=n+4)(h2:n+4<=l+4):l=n\/l=n+1\/l=n+2\/l=n+3\/l=n+4:=by omega
end
section
variable{w:World}{B:Im}{a c:Nat}{st:Stmt}{q:String}{dv mv:JM}{fd:FD}
noncomputable def cN(sc:Scope):Bool:=sc.kind==.function&&!sc.isCoroutine&&!sc.isGenerator
theorem OD{a:ScopeKind}(h:(a==.function)=JQ):a=.function:=by cases a<;>first|rfl|cases h
set_option tactic.hygienic true in theorem s_(hK:(KL w.params).In B)(hC:rg B c=JS (Ij q))(h1:(KL w.params).lookup a=JS (kf st q dv mv (.ref c)))(h3:t_ st=uX fd.body (qY (t_ st)))(h4:(uD Xs fd.body (qY (t_ st)) (tB st)&&(cN (tB st)&&fd.params.all λx=>vq (tB st) (nm x)))=JQ)(fh:List JM)(ew:∀f C h,zS f C h fd.dflt fh)(hb:∀(vals:List JM)(s:JI),(∀c o,B.get? c=JS o->s.heap.get? c=JS o)->vals.length<=fd.params.length->fd.params.length<=vals.length+fd.dflt.length->BindsTo s (uc st q dv mv (.ref c)) ⟨vals,[]⟩ ((fd.params.map nm).zip (vals++fh.drop (fd.dflt.length-(fd.params.length-vals.length))))):vB (wu w B) a fd:=by
 obtain⟨k1,k2⟩:=zh h4;obtain⟨k2,k3⟩:=zh k2;obtain⟨k2,k5⟩:=zh k2;obtain⟨k2,k6⟩:=zh k2;refine⟨⟨_,uc st q dv mv (.ref c),t_ st,hK _ _ h1,rfl,rfl,rfl,rfl,rfl,?_,OD k2,by rw[Ii]at k6;exact k6,by rw[Ii]at k5;exact k5,h3,k1,k3,fh,λf C h zz zz=>ew f C h,hb⟩⟩;show B.CodeRec (.ref c) (Ij q);unfold rg jt at hC;split at hC
 .rename_i o1 o2 vs o3 hg;split at hC;.rename_i q' t hv;cases hC;exact⟨c,_,vs,t,rfl,hg,rfl,hv⟩
  .cases hC
 .cases hC
theorem Qu(hK:(KL w.params).In B)(hC:rg B c=JS (Ij q))(h1:(KL w.params).lookup a=JS (kf st q dv mv (.ref c)))(h3:t_ st=uX fd.body (qY (t_ st)))(h4:(uD Xs fd.body (qY (t_ st)) (tB st)&&(cN (tB st)&&fd.params.all λx=>vq (tB st) (nm x)))=JQ)(hd:fd.dflt=[])(hb:∀vals:List JM,vals.length=fd.params.length->bindArgs (uc st q dv mv (.ref c)) ⟨vals,[]⟩=pure ((fd.params.map nm).zip vals)):vB (wu w B) a fd:=s_ hK hC h1 h3 h4 [] (λzz zz zz=>by rw[hd];rfl) λvals s hs l1 l2=>by rw[hd]at l2;rewrite[List.drop_nil];rw[IV];exact .of_eq (hb vals (Eg l1 l2))
theorem rZ{zi:Type}{l:List zi}{x:zi}(i:Nat)(h:l[i]?=JS x):x∈l:=J5 h
noncomputable def FT:List (JM×(Nat×(FD×(Stmt×String)))):=List.flatMap (λg=>g.2.map λe=>(g.1,e)) [(kv "gemrows.things" 194,[(37,aR,s2 5 0,"Thing.__init__"),(225,aS,s2 13 1,"ModuleThing.is_own"),(267,ZJ,s1 15,"sort_of"),(274,ZM,s1 16,"same"),(308,Zu,s1 21,"full_name"),(346,ZK,s1 27,"show_thing")]),(kv "gemrows.lines" 754,[(368,Zs,s1 31,"has_thing"),(375,ZU,s1 32,"own_line"),(380,aC,s1 33,"ahead_count"),(385,ZZ,s1 34,"made_line"),(392,Z_,s1 35,"line_of"),(420,Zt,s1 40,"given_entry"),(432,Zz,s1 42,"entry_at"),(439,Zv,s1 43,"first_entry"),(446,Zx,s1 44,"find"),(453,Zw,s1 45,"find_behind"),(460,ZP,s1 46,"raise_version"),(467,ZV,s1 47,"need_unfrozen"),(474,ZT,s1 48,"own_module"),(481,a9,s1 49,"define"),(488,ZR,s1 50,"place_entry"),(495,Zp,s1 51,"kind_word"),(502,ZX,s1 52,"need_entry"),(509,ZI,s1 53,"undefine"),(516,ZO,s1 54,"remove"),(523,aA,s1 55,"copied"),(530,aB,s1 56,"alias"),(537,ZL,s1 57,"set_sight"),(544,ZW,s1 58,"need_mixin"),(551,Zr,s1 59,"include"),(558,ZQ,s1 60,"prepend"),(565,Zy,s1 61,"extend"),(572,Zq,s1 62,"is_a"),(577,ZS,s1 63,"own_names"),(584,ZY,s1 64,"names_of"),(591,ZN,s1 65,"respond")]),(kv "gemrows.errors" 1090,[(626,gC,s2 68 0,"Raised.__init__")]),(kv "gemrows.world" 1145,[(680,aI,s2 74 3,"World.number"),(701,aQ,s2 74 6,"World.builtin"),(706,aJ,s2 74 7,"World.make_builtin"),(713,aM,s2 74 8,"World.give_own"),(728,aP,s2 74 10,"World.class_of"),(735,aG,s2 74 11,"World.own_of"),(742,aH,s2 74 12,"World.own_behind"),(749,aF,s2 74 13,"World.root_of"),(763,aE,s2 74 15,"World.text"),(805,aD,s2 74 21,"World.thing"),(812,aK,s2 74 22,"World.is_error_class"),(826,aO,s2 74 24,"World.error"),(833,aN,s2 74 25,"World.fail")]),(kv "law_nz0053_01" 1646,[(908,Zf,s1 76,"_law_model"),(915,Zd,s1 77,"_law_paths"),(920,Zh,s1 78,"_law_line"),(927,Zj,s1 79,"_law_found"),(932,Zg,s1 80,"_law_mixed"),(939,Zl,s1 81,"_law_deed"),(946,Zk,s1 82,"_law_done"),(953,Zc,s1 83,"_law_plain"),(960,Za,s1 84,"_law_shown"),(967,Zb,s1 85,"_law_row"),(972,Zn,s1 86,"_law_asked_right"),(977,Ze,s1 87,"_law_names"),(984,Zi,s1 88,"_law_kinds_right"),(989,Zm,s1 89,"_law_begun"),(994,Zo,s1 90,"law")])]
theorem yB{zi xJ:Type}{l:List zi}{f g:zi->xJ}(h:l.map f=l.map g){a:zi}(ha:a∈l):f a=g a:=Ep.mp h a ha
noncomputable def cx:List Nat:=[59,178,218,245,253,361,606,659,721]
noncomputable abbrev fst(e:JM×(Nat×(FD×(Stmt×String)))):Stmt:=e.2.2.2.1
noncomputable abbrev Qv(e:JM×(Nat×(FD×(Stmt×String)))):FuncData:=uc (fst e) e.2.2.2.2 .none e.1 (.ref (e.2.1-1))
theorem Qk(P:Params):FT.map (λe=>(KL P).lookup e.2.1)=FT.map λe=>JS (kf (fst e) e.2.2.2.2 .none e.1 (.ref (e.2.1-1))):=by kernel_rfl
theorem Qj:FT.map (λe=>t_ (fst e))=FT.map λe=>uX e.2.2.1.body (qY (t_ (fst e))):=by kernel_rfl
theorem Qi:FT.map (λe=>uD Xs e.2.2.1.body (qY (t_ (fst e))) (tB (fst e))&&(cN (tB (fst e))&&e.2.2.1.params.all λx=>vq (tB (fst e)) (nm x)))=FT.map λzz=>JQ:=by kernel_rfl
theorem Qh:FT.map (λe=>e.2.2.1.dflt)=FT.map λzz=>[]:=by kernel_rfl
theorem Qg:(oJ.filter λp=>!cx.contains (p.1+1))=FT.map λe=>(e.2.1-1,e.2.2.2.2):=by kernel_rfl
theorem Qf:(fns.filter λp=>!cx.contains p.1)=FT.map λe=>(e.2.1,e.2.2.1):=by kernel_rfl
theorem Qe:(fns.filter λp=>cx.contains p.1)=[(59,q5),(178,q8),(218,q6),(245,qA),(253,q9),(361,px),(606,q7),(659,q4),(721,pz)]:=by kernel_rfl
theorem Qd(f:Nat->JM):FT.map (λe=>bindArgs (Qv e) ⟨(IF e.2.2.1.params.length).map f,[]⟩)=FT.map λe=>pure ((e.2.2.1.params.map nm).zip ((IF e.2.2.1.params.length).map f)):=by kernel_rfl
theorem Kk(l:List JM):(IF l.length).map (λi=>l.getD i .none)=l:=List.ext_getElem (by rewrite[JN];rw[Hc]) λi h1 h2=>by rewrite[List.getElem_map];rewrite[F8];rewrite[IY];rw[Ic h2];rfl
variable(hK:(KL w.params).In B)(hC:∀p∈oJ,rg B p.1=JS (Ij p.2))
include hK hC
theorem Qo:vB (wu w B) 59 q5:=s_ (st:=s2 6 0) (q:="Text.__init__") (dv:=(.ref 52)) (mv:=(kv "gemrows.things" 194)) (c:=58) hK (hC (58,"Text.__init__") (rZ 1 rfl)) (by kernel_rfl) (by kernel_rfl) (by kernel_rfl) [(kv "" 307)] (λzz zz zz=>⟨_,_,rfl,⟨_,rfl⟩,rfl⟩) λvals s hs l1 l2=>by
 let PP:List JM->Prop:=λvals=>BindsTo s (uc (s2 6 0) "Text.__init__" (.ref 52) (kv "gemrows.things" 194) (.ref 58)) ⟨vals,[]⟩ ((q5.params.map nm).zip (vals++([(kv "" 307)]:List JM).drop (q5.dflt.length-(q5.params.length-vals.length))));show PP vals;rcases mL (n:=3) l1 l2 with h|h;.exact uH (P:=PP) (λa b c=>xc rfl (hs _ _ (hK 52 (kt [(kv "" 307)] 0) (by kernel_rfl))) rfl (by kernel_rfl)) vals h
 .exact qg (P:=PP) (λa b c d=>xc rfl (hs _ _ (hK 52 (kt [(kv "" 307)] 0) (by kernel_rfl))) rfl (by kernel_rfl)) vals h
theorem Qt:vB (wu w B) 178 q8:=s_ (st:=s2 11 0) (q:="ErrorThing.__init__") (dv:=(.ref 171)) (mv:=(kv "gemrows.things" 194)) (c:=177) hK (hC (177,"ErrorThing.__init__") (rZ 2 rfl)) (by kernel_rfl) (by kernel_rfl) (by kernel_rfl) [.none] (λzz zz zz=>⟨_,_,rfl,rfl,rfl⟩) λvals s hs l1 l2=>by
 let PP:List JM->Prop:=λvals=>BindsTo s (uc (s2 11 0) "ErrorThing.__init__" (.ref 171) (kv "gemrows.things" 194) (.ref 177)) ⟨vals,[]⟩ ((q8.params.map nm).zip (vals++([.none]:List JM).drop (q8.dflt.length-(q8.params.length-vals.length))));show PP vals;rcases mL (n:=3) l1 l2 with h|h;.exact uH (P:=PP) (λa b c=>xc rfl (hs _ _ (hK 171 (kt [.none] 0) (by kernel_rfl))) rfl (by kernel_rfl)) vals h
 .exact qg (P:=PP) (λa b c d=>xc rfl (hs _ _ (hK 171 (kt [.none] 0) (by kernel_rfl))) rfl (by kernel_rfl)) vals h
theorem Qs:vB (wu w B) 218 q6:=s_ (st:=s2 13 0) (q:="ModuleThing.__init__") (dv:=(.ref 211)) (mv:=(kv "gemrows.things" 194)) (c:=217) hK (hC (217,"ModuleThing.__init__") (rZ 3 rfl)) (by kernel_rfl) (by kernel_rfl) (by kernel_rfl) [.none,(.bool JT),.none,.none] (λzz zz zz=>⟨_,_,rfl,rfl,⟨_,_,rfl,rfl,⟨_,_,rfl,rfl,⟨_,_,rfl,rfl,rfl⟩⟩⟩⟩) λvals s hs l1 l2=>by
 let PP:List JM->Prop:=λvals=>BindsTo s (uc (s2 13 0) "ModuleThing.__init__" (.ref 211) (kv "gemrows.things" 194) (.ref 217)) ⟨vals,[]⟩ ((q6.params.map nm).zip (vals++([.none,(.bool JT),.none,.none]:List JM).drop (q6.dflt.length-(q6.params.length-vals.length))));show PP vals;rcases S_ (n:=3) l1 l2 with h|h|h|h|h;.exact uH (P:=PP) (λa b c=>xc rfl (hs _ _ (hK 211 (kt [.none,(.bool JT),.none,.none] 0) (by kernel_rfl))) rfl (by kernel_rfl)) vals h
 .exact qg (P:=PP) (λa b c d=>xc rfl (hs _ _ (hK 211 (kt [.none,(.bool JT),.none,.none] 0) (by kernel_rfl))) rfl (by kernel_rfl)) vals h
 .exact lG (P:=PP) (λa b c d e=>xc rfl (hs _ _ (hK 211 (kt [.none,(.bool JT),.none,.none] 0) (by kernel_rfl))) rfl (by kernel_rfl)) vals h
 .exact ij (P:=PP) (λa b c d e f=>xc rfl (hs _ _ (hK 211 (kt [.none,(.bool JT),.none,.none] 0) (by kernel_rfl))) rfl (by kernel_rfl)) vals h
 .exact X7 (P:=PP) (λa b c d e f g=>xc rfl (hs _ _ (hK 211 (kt [.none,(.bool JT),.none,.none] 0) (by kernel_rfl))) rfl (by kernel_rfl)) vals h
theorem Qr:vB (wu w B) 245 qA:=s_ (st:=s2 14 0) (q:="Entry.__init__") (dv:=(.ref 238)) (mv:=(kv "gemrows.things" 194)) (c:=244) hK (hC (244,"Entry.__init__") (rZ 5 rfl)) (by kernel_rfl) (by kernel_rfl) (by kernel_rfl) [.none,.none,(kv "public" 593)] (λzz zz zz=>⟨_,_,rfl,rfl,⟨_,_,rfl,rfl,⟨_,_,rfl,⟨_,rfl⟩,rfl⟩⟩⟩) λvals s hs l1 l2=>by
 let PP:List JM->Prop:=λvals=>BindsTo s (uc (s2 14 0) "Entry.__init__" (.ref 238) (kv "gemrows.things" 194) (.ref 244)) ⟨vals,[]⟩ ((qA.params.map nm).zip (vals++([.none,.none,(kv "public" 593)]:List JM).drop (qA.dflt.length-(qA.params.length-vals.length))));show PP vals;rcases gW (n:=4) l1 l2 with h|h|h|h;.exact qg (P:=PP) (λa b c d=>xc rfl (hs _ _ (hK 238 (kt [.none,.none,(kv "public" 593)] 0) (by kernel_rfl))) rfl (by kernel_rfl)) vals h
 .exact lG (P:=PP) (λa b c d e=>xc rfl (hs _ _ (hK 238 (kt [.none,.none,(kv "public" 593)] 0) (by kernel_rfl))) rfl (by kernel_rfl)) vals h
 .exact ij (P:=PP) (λa b c d e f=>xc rfl (hs _ _ (hK 238 (kt [.none,.none,(kv "public" 593)] 0) (by kernel_rfl))) rfl (by kernel_rfl)) vals h
 .exact X7 (P:=PP) (λa b c d e f g=>xc rfl (hs _ _ (hK 238 (kt [.none,.none,(kv "public" 593)] 0) (by kernel_rfl))) rfl (by kernel_rfl)) vals h
theorem Qq:vB (wu w B) 253 q9:=s_ (st:=s2 14 1) (q:="Entry.moved") (dv:=(.ref 246)) (mv:=(kv "gemrows.things" 194)) (c:=252) hK (hC (252,"Entry.moved") (rZ 6 rfl)) (by kernel_rfl) (by kernel_rfl) (by kernel_rfl) [.none] (λzz zz zz=>⟨_,_,rfl,rfl,rfl⟩) λvals s hs l1 l2=>by
 let PP:List JM->Prop:=λvals=>BindsTo s (uc (s2 14 1) "Entry.moved" (.ref 246) (kv "gemrows.things" 194) (.ref 252)) ⟨vals,[]⟩ ((q9.params.map nm).zip (vals++([.none]:List JM).drop (q9.dflt.length-(q9.params.length-vals.length))));show PP vals;rcases mL (n:=3) l1 l2 with h|h;.exact uH (P:=PP) (λa b c=>xc rfl (hs _ _ (hK 246 (kt [.none] 0) (by kernel_rfl))) rfl (by kernel_rfl)) vals h
 .exact qg (P:=PP) (λa b c d=>xc rfl (hs _ _ (hK 246 (kt [.none] 0) (by kernel_rfl))) rfl (by kernel_rfl)) vals h
theorem Qp:vB (wu w B) 361 px:=s_ (st:=s1 29) (q:="show") (dv:=(.ref 354)) (mv:=(kv "gemrows.things" 194)) (c:=360) hK (hC (360,"show") (rZ 11 rfl)) (by kernel_rfl) (by kernel_rfl) (by kernel_rfl) [(.int 6 744)] (λzz zz zz=>⟨_,_,rfl,⟨_,rfl⟩,rfl⟩) λvals s hs l1 l2=>by
 let PP:List JM->Prop:=λvals=>BindsTo s (uc (s1 29) "show" (.ref 354) (kv "gemrows.things" 194) (.ref 360)) ⟨vals,[]⟩ ((px.params.map nm).zip (vals++([(.int 6 744)]:List JM).drop (px.dflt.length-(px.params.length-vals.length))));show PP vals;rcases mL (n:=1) l1 l2 with h|h;.exact d_ (P:=PP) (λa=>xc rfl (hs _ _ (hK 354 (kt [(.int 6 744)] 0) (by kernel_rfl))) rfl (by kernel_rfl)) vals h
 .exact uI (P:=PP) (λa b=>xc rfl (hs _ _ (hK 354 (kt [(.int 6 744)] 0) (by kernel_rfl))) rfl (by kernel_rfl)) vals h
theorem Qn:vB (wu w B) 606 q7:=s_ (st:=s2 67 0) (q:="GemError.__init__") (dv:=(.ref 599)) (mv:=(kv "gemrows.errors" 1090)) (c:=605) hK (hC (605,"GemError.__init__") (rZ 42 rfl)) (by kernel_rfl) (by kernel_rfl) (by kernel_rfl) [(kv "" 1104)] (λzz zz zz=>⟨_,_,rfl,⟨_,rfl⟩,rfl⟩) λvals s hs l1 l2=>by
 let PP:List JM->Prop:=λvals=>BindsTo s (uc (s2 67 0) "GemError.__init__" (.ref 599) (kv "gemrows.errors" 1090) (.ref 605)) ⟨vals,[]⟩ ((q7.params.map nm).zip (vals++([(kv "" 1104)]:List JM).drop (q7.dflt.length-(q7.params.length-vals.length))));show PP vals;rcases mL (n:=1) l1 l2 with h|h;.exact d_ (P:=PP) (λa=>xc rfl (hs _ _ (hK 599 (kt [(kv "" 1104)] 0) (by kernel_rfl))) rfl (by kernel_rfl)) vals h
 .exact uI (P:=PP) (λa b=>xc rfl (hs _ _ (hK 599 (kt [(kv "" 1104)] 0) (by kernel_rfl))) rfl (by kernel_rfl)) vals h
theorem Qm:vB (wu w B) 659 q4:=s_ (st:=s2 74 0) (q:="World.__init__") (dv:=(.ref 652)) (mv:=(kv "gemrows.world" 1145)) (c:=658) hK (hC (658,"World.__init__") (rZ 44 rfl)) (by kernel_rfl) (by kernel_rfl) (by kernel_rfl) [.none,.none,(.int 20000 1309)] (λzz zz zz=>⟨_,_,rfl,rfl,⟨_,_,rfl,rfl,⟨_,_,rfl,⟨_,rfl⟩,rfl⟩⟩⟩) λvals s hs l1 l2=>by
 let PP:List JM->Prop:=λvals=>BindsTo s (uc (s2 74 0) "World.__init__" (.ref 652) (kv "gemrows.world" 1145) (.ref 658)) ⟨vals,[]⟩ ((q4.params.map nm).zip (vals++([.none,.none,(.int 20000 1309)]:List JM).drop (q4.dflt.length-(q4.params.length-vals.length))));show PP vals;rcases gW (n:=2) l1 l2 with h|h|h|h;.exact uI (P:=PP) (λa b=>xc rfl (hs _ _ (hK 652 (kt [.none,.none,(.int 20000 1309)] 0) (by kernel_rfl))) rfl (by kernel_rfl)) vals h
 .exact uH (P:=PP) (λa b c=>xc rfl (hs _ _ (hK 652 (kt [.none,.none,(.int 20000 1309)] 0) (by kernel_rfl))) rfl (by kernel_rfl)) vals h
 .exact qg (P:=PP) (λa b c d=>xc rfl (hs _ _ (hK 652 (kt [.none,.none,(.int 20000 1309)] 0) (by kernel_rfl))) rfl (by kernel_rfl)) vals h
 .exact lG (P:=PP) (λa b c d e=>xc rfl (hs _ _ (hK 652 (kt [.none,.none,(.int 20000 1309)] 0) (by kernel_rfl))) rfl (by kernel_rfl)) vals h
theorem Ql:vB (wu w B) 721 pz:=s_ (st:=s2 74 9) (q:="World.new_module") (dv:=(.ref 714)) (mv:=(kv "gemrows.world" 1145)) (c:=720) hK (hC (720,"World.new_module") (rZ 49 rfl)) (by kernel_rfl) (by kernel_rfl) (by kernel_rfl) [.none,.none,.none] (λzz zz zz=>⟨_,_,rfl,rfl,⟨_,_,rfl,rfl,⟨_,_,rfl,rfl,rfl⟩⟩⟩) λvals s hs l1 l2=>by
 let PP:List JM->Prop:=λvals=>BindsTo s (uc (s2 74 9) "World.new_module" (.ref 714) (kv "gemrows.world" 1145) (.ref 720)) ⟨vals,[]⟩ ((pz.params.map nm).zip (vals++([.none,.none,.none]:List JM).drop (pz.dflt.length-(pz.params.length-vals.length))));show PP vals;rcases gW (n:=3) l1 l2 with h|h|h|h;.exact uH (P:=PP) (λa b c=>xc rfl (hs _ _ (hK 714 (kt [.none,.none,.none] 0) (by kernel_rfl))) rfl (by kernel_rfl)) vals h
 .exact qg (P:=PP) (λa b c d=>xc rfl (hs _ _ (hK 714 (kt [.none,.none,.none] 0) (by kernel_rfl))) rfl (by kernel_rfl)) vals h
 .exact lG (P:=PP) (λa b c d e=>xc rfl (hs _ _ (hK 714 (kt [.none,.none,.none] 0) (by kernel_rfl))) rfl (by kernel_rfl)) vals h
 .exact ij (P:=PP) (λa b c d e f=>xc rfl (hs _ _ (hK 714 (kt [.none,.none,.none] 0) (by kernel_rfl))) rfl (by kernel_rfl)) vals h
theorem U2:∀e∈FT,vB (wu w B) e.2.1 e.2.2.1:=λe he=>Qu hK (hC (e.2.1-1,e.2.2.2.2) (Hd.mp (Qg▸FP he)).1) (yB (Qk w.params) he) (yB Qj he) (yB Qi he) (yB Qh he) λvals hv=>by have h:=yB (Qd λi=>vals.getD i .none) he;rw[<-hv,Kk]at h;exact h
theorem U4:∀p∈[(59,q5),(178,q8),(218,q6),(245,qA),(253,q9),(361,px),(606,q7),(659,q4),(721,pz)],vB (wu w B) p.1 p.2:=IL.mpr ⟨Qo hK hC,IL.mpr ⟨Qt hK hC,IL.mpr ⟨Qs hK hC,IL.mpr ⟨Qr hK hC,IL.mpr ⟨Qq hK hC,IL.mpr ⟨Qp hK hC,IL.mpr ⟨Qn hK hC,IL.mpr ⟨Qm hK hC,IL.mpr ⟨Ql hK hC,(λzz h=>nomatch h)⟩⟩⟩⟩⟩⟩⟩⟩⟩
theorem U3:∀p∈fns,vB (wu w B) p.1 p.2:=λp hp=>by cases q:cx.contains p.1 with|true=>have h:p∈fns.filter λp=>cx.contains p.1:=Hd.mpr ⟨hp,q⟩;rw[Qe]at h;exact U4 hK hC p h|false=>have h:p∈fns.filter λp=>!cx.contains p.1:=Hd.mpr ⟨hp,by rw[q];rfl⟩;rw[Qf]at h;obtain⟨e,he,rfl⟩:=IG.mp h;exact U2 hK hC e he
end
open PySem PySem.W PySem.Calls PyProof.Rows
theorem tL{zi:Type}{x:Nat}{v:zi}:∀{l:List (Nat×zi)},uG x l=JS v->(x,v)∈l|(y,w)::r,h=>by have h:(match JG x y with|JQ=>JS w|JT=>uG x r)=JS v:=h;cases q:JG x y with|true=>rw[q]at h;cases h;rw[JD q];exact .head _|false=>rw[q]at h;exact .tail _ (tL h)
theorem rh{c:Nat}(h:ud c):∃p,(c,p)∈xa:=by obtain⟨p,hp⟩:=I2.mp h;exact⟨p,tL (l:=xa) hp⟩
theorem Wn{c x f:Nat}(h:prog.zl c x=JS f):∃l,(c,l)∈meths/\(x,f)∈l:=by obtain⟨l,h1,h2⟩:=H2.mp (show(uG c meths).bind (λl=>uG x l)=JS f from h);exact⟨l,tL h1,tL h2⟩
section
variable(P:Params)
theorem OT:xa.map (λp=>(findIn (KL P) (.ref p.1) "__getattribute__",mroIn (KL P) p.1 (.type "BaseException")))=xa.map λp=>(JS (JS (.builtin (match p.2.2 with|JQ=>"BaseException.__getattribute__"|JT=>"object.__getattribute__"))),JS p.2.2):=by kernel_rfl
theorem XO:xa.map (λp=>(findIn (KL P) (.ref p.1) "__getattr__",findIn (KL P) (.ref p.1) "__setattr__"))=xa.map λzz=>(JS none,JS (JS (.builtin "object.__setattr__"))):=by kernel_rfl
theorem OX:xa.map (λp=>(clsIn (KL P) p.1).map λcd=>cd.hasDict&&(ki cd.mro&&!cd.mro.isEmpty))=xa.map λzz=>JS JQ:=by kernel_rfl
theorem ON:xa.map (λp=>Xs.map λx=>match prog.zl p.1 x with|none=>findIn (KL P) (.ref p.1) (nm x)|JS _=>JS none)=xa.map λzz=>Xs.map λzz=>JS none:=by kernel_rfl
theorem XM:meths.map (λp=>p.2.map λq=>match Xs.contains q.1 with|JQ=>(findIn (KL P) (.ref p.1) (nm q.1),typeIn (KL P) (.ref q.2),findCls (KL P) (.ref p.1) (.type "type") (nm q.1))|JT=>(none,none,none))=meths.map λp=>p.2.map λq=>match Xs.contains q.1 with|JQ=>(JS (JS (.ref q.2)),JS (.type "function"),JS (.val (.ref q.2)))|JT=>(none,none,none):=by kernel_rfl
theorem XN:meths.map (λp=>((prog.cls p.1).isSome,readsIn (KL P) p.1 (.type "type"),specialIn (KL P) (.ref p.1) "__getattribute__"))=meths.map λzz=>(JQ,JQ,JS (JS (.builtin "type.__getattribute__"))):=by kernel_rfl
theorem XH:xa.map (λp=>xa.map λr=>match p.2.2 with|JQ=>JQ|JT=>match prog.sub p.1 r.1 with|JQ=>isIn (KL P) (.ref p.1) r.1|JT=>kin_not (KL P) p.1 r.1)=xa.map λzz=>xa.map λzz=>JQ:=by kernel_rfl
theorem XJ:xa.map (λp=>match p.2.2 with|JQ=>(JQ,JS (JS (.builtin "object.__class__")),JS JQ)|JT=>(plainGet (KL P) p.1 "__class__"&&(hasDictIn (KL P) p.1&&(kin_notT (KL P) p.1 "int"&&(kin_notT (KL P) p.1 "str"&&kin_notT (KL P) p.1 "bool"))),findIn (KL P) (.ref p.1) "__class__",mroIn (KL P) p.1 (.type "object")))=xa.map λzz=>(JQ,JS (JS (.builtin "object.__class__")),JS JQ):=by kernel_rfl
theorem OR:specialIn (KL P) (.builtin "object.__class__") "__get__"=JS (JS (.builtin "getset_descriptor.__get__"))/\takesIn (KL P) (.builtin "object.__class__")=JS JQ:=⟨by kernel_rfl,by kernel_rfl⟩
theorem XI:xa.map (λp=>isNotIn (KL P) "int" p.1&&(isNotIn (KL P) "str" p.1&&(isNotIn (KL P) "bool" p.1&&(isNotIn (KL P) "NoneType" p.1&&keepIn (KL P) (.ref p.1)))))=xa.map λzz=>JQ:=by kernel_rfl
theorem OV:kR.map (λp=>match p.2.any (JG 629)with|JQ=>exmOne (KL P) (.ref p.1) (.ref 629)|JT=>JS JQ)=kR.map λzz=>JS JQ:=by kernel_rfl
theorem OQ:fns.map (λp=>keepIn (KL P) (.ref p.1))=fns.map λzz=>JQ:=by kernel_rfl
theorem OP:xa.map (λp=>match p.2.2 with|JQ=>(JQ,JS (JS (.ref p.2.1)),JS (.type "function"))|JT=>(makesIn (KL P) p.1,findIn (KL P) (.ref p.1) "__init__",typeIn (KL P) (.ref p.2.1)))=xa.map λp=>(JQ,JS (JS (.ref p.2.1)),JS (.type "function")):=by kernel_rfl
theorem OU:fns.map (λp=>(decide p.2.params.Nodup&&Ho p.2.params.length 1000))=fns.map λzz=>JQ:=by kernel_rfl
end
open PySem PySem.W PySem.Calls PyProof.Rows
section
variable{w:World}{B:Im}{mb:Str->Option JM}
theorem dC{a:Nat}{c:JM}{l:List Ig}{ep:Nat}(hK:(KL w.params).In B)(h:(KL w.params).lookup a=JS (kd c l ep))(hs:(l.all λe=>match e.key with|.str _ _=>JQ|_=>JT)=JQ):B.Ns a (nsFind l.toArray):=by refine⟨_,_,_,hK _ _ h,rfl,λe he=>?_,λzz=>rfl⟩;have:=Iz.mp hs e (Ie.mpr he);cases q:e.key with|str n t=>exact⟨n,t,rfl⟩|_=>rw[q]at this;cases this
noncomputable def du(o:Option Obj):List Ig:=match o with|JS ⟨zo,zY,.dict es zH,ya⟩=>es.toList|_=>[]
noncomputable def nL(P:Params):List Ig:=du ((KL P).lookup 3)
noncomputable def mK:V->Option JM|.bi b=>JS (.builtin b.id)|.ty t=>JS (.type t.id)|_=>none
noncomputable def jN:V->Option JM|.fn a|.cl a=>JS (.ref a)|.ref 0=>JS (.ref 633)|.ref 1=>JS (.ref 636)|.tup [zo,zY,zH]=>JS (.ref 632)|.tup zo=>JS (.ref 644)|_=>none
theorem OS(P:Params):vY.map (λp=>nsFind (nL P).toArray (nm p.1))=vY.map λp=>jN p.2:=by kernel_rfl
noncomputable def Sa(x:Nat):Option JM->Option JM|JS zo=>bootBuiltins (nm x)|none=>none
theorem OY:vY.map (λp=>Sa p.1 (mK p.2))=vY.map λp=>mK p.2:=by kernel_rfl
noncomputable def lu(v:V):Option JM:=match mK v with|JS u=>JS u|none=>jN v
noncomputable def OE:V->Nat|.ref n=>n|_=>0
theorem OM{x n:Nat}(hm:(x,V.ref n)∈vY):n=0\/n=1:=by
 have k1:vY.map (λp=>Ho (OE p.2) 1)=vY.map λzz=>JQ:=by kernel_rfl
 have h:Ho n 1=JQ:=yB k1 hm;match n,h with|0,zo=>exact .inl rfl|1,zo=>exact .inr rfl
noncomputable def LB:V->List V|.tup l=>l|_=>[]
theorem OK{x:Nat}{l:List V}(hm:(x,V.tup l)∈vY):l=[.str [75,101,114,110,101,108],.str [67,111,109,112,97,114,97,98,108,101],.str [69,110,117,109,101,114,97,98,108,101]]\/l=[.str [78,105,108,67,108,97,115,115],.str [84,114,117,101,67,108,97,115,115],.str [70,97,108,115,101,67,108,97,115,115],.str [73,110,116,101,103,101,114],.str [78,117,109,101,114,105,99],.str [83,121,109,98,111,108]]:=by
 have k1:(vY.filter λp=>match p.2 with|.tup _=>JQ|_=>JT).map (λp=>LB p.2)=[[.str [75,101,114,110,101,108],.str [67,111,109,112,97,114,97,98,108,101],.str [69,110,117,109,101,114,97,98,108,101]],[.str [78,105,108,67,108,97,115,115],.str [84,114,117,101,67,108,97,115,115],.str [70,97,108,115,101,67,108,97,115,115],.str [73,110,116,101,103,101,114],.str [78,117,109,101,114,105,99],.str [83,121,109,98,111,108]]]:=by kernel_rfl
 have h:l∈[[.str [75,101,114,110,101,108],.str [67,111,109,112,97,114,97,98,108,101],.str [69,110,117,109,101,114,97,98,108,101]],[.str [78,105,108,67,108,97,115,115],.str [84,114,117,101,67,108,97,115,115],.str [70,97,108,115,101,67,108,97,115,115],.str [73,110,116,101,103,101,114],.str [78,117,109,101,114,105,99],.str [83,121,109,98,111,108]]]:=by rw[<-k1];exact IG.mpr ⟨_,Hd.mpr ⟨hm,rfl⟩,rfl⟩
 rcases JJ.mp h with e|e;.exact .inl e
 .exact .inr (JP.mp e)
theorem vD{f:FM}{C:OW}{h:Im}{s:List Nat}{x:String}{t:Nat}{l:List V}{vs:List JM}(e:Ij x=tx s)(r:zS f C h l vs):zS f C h (.str s::l) (kv x t::vs):=⟨_,_,rfl,⟨t,by rw[<-e];rfl⟩,r⟩
theorem rG{f:FM}{C:OW}{h:Im}(hK:(KL w.params).In B)(k:∀c o,B.get? c=JS o->C c=none/\h.get? c=JS o){a:Nat}{l:List JM}{ep:Nat}{vs:List V}(e:(KL w.params).lookup a=JS (kt l ep))(r:zS f C h vs l):VR f C h (.tup vs) (.ref a):=let⟨k1,k2⟩:=k _ _ (hK _ _ e);⟨a,l.toArray,ep,#[],rfl,k2,k1,r⟩
theorem VP(hK:(KL w.params).In B){x:Nat}{v:V}{u:JM}(hm:(x,v)∈vY)(e:lu v=JS u):mR (wu w B) v u:=by
 cases v with
 |fn a=>cases e;exactλzz zz zz zz zz=>rfl
 |cl a=>cases e;exactλzz zz zz zz zz=>rfl
 |bi a=>cases e;exactλzz zz zz zz zz=>rfl
 |ty a=>cases e;exactλzz zz zz zz zz=>rfl
 |ref n=>
  have:n=0\/n=1:=OM hm;rcases this with rfl|rfl;.cases e;exactλzz zz zz z zz=>⟨633,z 0 633 rfl,rfl⟩
  .cases e;exactλzz zz zz z zz=>⟨636,z 1 636 rfl,rfl⟩
 |tup l=>
  rcases OK hm with rfl|rfl;.cases e;exactλzz zz zz zz k=>(rG hK k (a:=632) (l:=[(kv "Kernel" 1147),(kv "Comparable" 1148),(kv "Enumerable" 1149)]) (ep:=0) (by kernel_rfl) (vD (by kernel_rfl) (vD (by kernel_rfl) (vD (by kernel_rfl) rfl))))
  .cases e;exactλzz zz zz zz k=>(rG hK k (a:=644) (l:=[(kv "NilClass" 1290),(kv "TrueClass" 1291),(kv "FalseClass" 1292),(kv "Integer" 1293),(kv "Numeric" 1294),(kv "Symbol" 1295)]) (ep:=0) (by kernel_rfl) (vD (by kernel_rfl) (vD (by kernel_rfl) (vD (by kernel_rfl) (vD (by kernel_rfl) (vD (by kernel_rfl) (vD (by kernel_rfl) rfl)))))))
 |_=>cases e
theorem OO:vY.map (λp=>nm p.1==("__name__":Str))=vY.map λzz=>JT:=by kernel_rfl
theorem OL:vY.map (λp=>(lu p.2).isSome)=vY.map λzz=>JQ:=by kernel_rfl
theorem SY{v:V}{u:JM}(h:mK v=JS u):jN v=none:=by cases v<;>first|rfl|cases h
theorem Wm(hK:(KL w.params).In B):B.Ns mainGlobals (nsFind (nL w.params).toArray):=dC (c:=.type "dict") (ep:=95) hK (by kernel_rfl) (by kernel_rfl)
theorem QV(hK:(KL w.params).In B)(hb:∀x:Str,x≠"__name__"->mb x=bootBuiltins x){x:Nat}{v:V}(hm:(x,v)∈vY):∃u,(nsFind (nL w.params).toArray (nm x)=JS u\/(nsFind (nL w.params).toArray (nm x)=none/\mb (nm x)=JS u))/\mR (wu w B) v u:=by
 have h1:=yB (OS w.params) hm;have h2:=yB OY hm;have h4:=yB OO hm;have h5:=yB OL hm;dsimp only at h1 h2 h4 h5;generalize nsFind (nL w.params).toArray (nm x)=m at h1⊢;subst h1;cases q:mK v with
 |some u=>rw[q]at h2;exact⟨u,.inr ⟨SY q,(hb _ λe=>by rw[e]at h4;cases h4).trans h2⟩,VP hK hm (by unfold lu;rw[q])⟩
 |none=>
  have e:lu v=jN v:=by unfold lu;rw[q]
  rw[e]at h5;obtain⟨u,hu⟩:=I2.mp h5;exact⟨u,.inl hu,VP hK hm (e.trans hu)⟩
theorem QU(hK:(KL w.params).In B)(eR:B.Ns builtinsNs mb)(hb:∀x:Str,x≠"__name__"->mb x=bootBuiltins x):gi (wu w B):=⟨_,mb,Wm hK,eR,λx v hv=>QV hK hb (tL (l:=vY) hv)⟩
end
open PySem PySem.W PySem.Calls PyProof.Rows
section
variable{w:World}{B:Im}{mb:Str->Option JM}
theorem Rq(hK:(KL w.params).In B){c fi:Nat}(hm:(c,(fi,JT))∈xa):ClsRec (wu w B) c fi:=λh k=>by have fB:(KL w.params).In h:=hK.keeps k;obtain⟨e1,e2⟩:=IQ (yB (OP w.params) hm);obtain⟨e2,e3⟩:=IQ e2;exact⟨makes_of fB e1,looks_findIn fB e2,λself=>bind_fn fB self e3⟩
theorem RM(hK:(KL w.params).In B):kJ (wu w B) 609 606:=⟨_,_,608,_,_,_,_,_,_,_,_,_,_,_,_,_,_,_,_,_,_,_,Hf,λzz zz h=>h,hK 609 (kl "GemError" [(.type "ValueError")] [(.ref 609),(.type "ValueError"),(.type "Exception"),(.type "BaseException"),(.type "object")] 608 [(.ref 629)] [JS (.ref 592),none,JS (kv "GemError" 1092),JS (kv "GemError" 1100),JS (.builtin "ValueError.__new__"),JS (.bool JQ)]) (by kernel_rfl),dC (a:=608) (c:=.type "dict") (l:=du ((KL w.params).lookup 608)) (ep:=3) hK (by kernel_rfl) (by kernel_rfl),by kernel_rfl,hK 606 (kf (s2 67 0) "GemError.__init__" (.ref 599) (kv "gemrows.errors" 1090) (.ref 605)) (by kernel_rfl),rfl,by kernel_rfl⟩
theorem Lh:mT [.type "ValueError",.type "Exception",.type "BaseException",.type "object"] [.ref 609,.type "ValueError",.type "Exception",.type "BaseException",.type "object"]:=λX b h=>by rw[Iy,show(I' X==HS 609)=JT from rfl,Gj];exact h
theorem RL(hK:(KL w.params).In B):kJ (wu w B) 629 626:=⟨_,_,628,_,_,_,_,_,_,_,_,_,_,_,_,_,_,_,_,_,_,_,Hf,Lh,hK 629 (kl "Raised" [(.ref 609)] [(.ref 629),(.ref 609),(.type "ValueError"),(.type "Exception"),(.type "BaseException"),(.type "object")] 628 [] [JS (.ref 613),none,JS (kv "Raised" 1120),JS (kv "Raised" 1128),JS (.builtin "ValueError.__new__"),JS (.bool JQ)]) (by kernel_rfl),dC (a:=628) (c:=.type "dict") (l:=du ((KL w.params).lookup 628)) (ep:=2) hK (by kernel_rfl) (by kernel_rfl),by kernel_rfl,hK 626 (kf (s2 68 0) "Raised.__init__" .none (kv "gemrows.errors" 1090) (.ref 625)) (by kernel_rfl),rfl,by kernel_rfl⟩
theorem RG(hK:(KL w.params).In B){c fi:Nat}(h:prog.cls c=JS (fi,JQ)):kJ (wu w B) c fi:=by
 have hm:=tL (l:=xa) h;have h2:(c,(fi,JQ))∈[(609,(606,JQ)),(629,(626,JQ))]:=by
  have:∀p∈xa,p.2.2=JQ->p∈[(609,(606,JQ)),(629,(626,JQ))]:=by decide+kernel
  exact this _ hm rfl
 rcases JJ.mp h2 with e|h2;.cases e;exact RM hK
 .cases JP.mp h2;exact RL hK
theorem iP{D:Nat}(h:qW D):∃i,(D,(i,JT))∈xa:=h.imp λzz h=>tL (l:=xa) h
theorem facts (hK : (KL w.params).In B) (hC : ∀ p ∈ oJ, rg B p.1 = JS (Ij p.2)) (eR : B.Ns builtinsNs mb) (hb : ∀ x : Str, x ≠ "__name__" → mb x = bootBuiltins x) (hs : B.get? sysModules ≠ none) : Facts (wu w B) where
  yQ := hK
  ga := fun c h => by
    obtain ⟨⟨i, t⟩, hm⟩ := rh h
    obtain ⟨e1, e2⟩ := IQ (yB (OT w.params) hm)
    cases t with
    | true => exact .inr ⟨e1, e2⟩
    | false => exact .inl e1
  gx := fun c h => let ⟨p, hm⟩ := rh h; (IQ (yB (XO w.params) hm)).1
  sa := fun c h => let ⟨p, hm⟩ := rh h; (IQ (yB (XO w.params) hm)).2
  cd := fun c h => by
    obtain ⟨p, hm⟩ := rh h
    obtain ⟨cd, e1, e2⟩ := JB.mp (yB (OX w.params) hm)
    obtain ⟨e2, e3⟩ := zh e2
    obtain ⟨e3, e4⟩ := zh e3
    exact ⟨cd, e1, e2, e3, by rw [Ii] at e4; exact e4⟩
  dF := fun c x h hx hn => by
    obtain ⟨p, hm⟩ := rh h
    have e := yB (yB (ON w.params) hm) (I3.mp hx)
    dsimp only at e
    rw [hn] at e; exact e
  zl := fun c x f h hx => by
    obtain ⟨l, h1, h2⟩ := Wn h
    have e := yB (yB (XM w.params) h1) h2
    dsimp only at e
    rw [show Xs.contains x = JQ from hx] at e
    obtain ⟨e1, e2⟩ := IQ e
    exact ⟨(IQ (yB (XN w.params) h1)).1, e1, (IQ e2).1⟩
  reads := fun c x f h hx => by
    obtain ⟨l, h1, h2⟩ := Wn h
    have e := yB (yB (XM w.params) h1) h2
    dsimp only at e
    rw [show Xs.contains x = JQ from hx] at e
    obtain ⟨_, e2⟩ := IQ e
    obtain ⟨_, e3⟩ := IQ (yB (XN w.params) h1)
    exact ⟨(IQ e3).1, (IQ e2).2, (IQ e3).2⟩
  yes := fun D zP hD hC h => by
    obtain ⟨i, h1⟩ := iP hD
    obtain ⟨p, h2⟩ := rh hC
    have e := yB (yB (XH w.params) h1) h2
    dsimp only at e
    rw [h] at e; exact e
  no := fun D zP hD hC h => by
    obtain ⟨i, h1⟩ := iP hD
    obtain ⟨p, h2⟩ := rh hC
    have e := yB (yB (XH w.params) h1) h2
    dsimp only at e
    rw [h] at e; exact e
  cy := fun D hD => by
    obtain ⟨i, h1⟩ := iP hD
    obtain ⟨e1, e2⟩ := IQ (yB (XJ w.params) h1)
    obtain ⟨a1, e1⟩ := zh e1
    exact ⟨a1, (zh e1).1, (IQ e2).1, (IQ e2).2⟩
  gs := OR w.params
  pl := fun zP hC => by
    obtain ⟨p, h2⟩ := rh hC
    obtain ⟨a1, e⟩ := zh (yB (XI w.params) h2)
    obtain ⟨a2, e⟩ := zh e
    obtain ⟨a3, e⟩ := zh e
    exact ⟨a1, a2, a3, (zh e).1⟩
  nt := fun D hD => by
    obtain ⟨i, h1⟩ := iP hD
    obtain ⟨e1, _⟩ := IQ (yB (XJ w.params) h1)
    obtain ⟨_, e1⟩ := zh e1
    obtain ⟨_, e1⟩ := zh e1
    obtain ⟨a1, e1⟩ := zh e1
    exact ⟨a1, (zh e1).1, (zh e1).2⟩
  Yb := fun c h => by
    have h : (match uG c kR with | JS l => l.any (JG 629) | none => JT) = JQ := h
    cases q : uG c kR with
    | none => rw [q] at h; cases h
    | some l =>
      rw [q] at h
      have e := yB (OV w.params) (tL q)
      dsimp only at e h
      rw [h] at e; exact e
  glob := QU hK eR hb
  sys := hs
  XE := fun a h => by
    obtain ⟨fd, hf⟩ := I2.mp h
    exact yB (OQ w.params) (tL (l := fns) hf)
  XF := fun a h => by
    obtain ⟨p, h2⟩ := rh h
    obtain ⟨_, e⟩ := zh (yB (XI w.params) h2)
    obtain ⟨_, e⟩ := zh e
    obtain ⟨_, e⟩ := zh e
    exact (zh e).2
  fns := fun a fd h => by
    have hm := tL (l := fns) h
    obtain ⟨e1, e2⟩ := zh (yB (OU) hm)
    exact ⟨U3 hK hC _ hm, of_decide_eq_true e1, JA e2⟩
  cls := fun c fi h => Rq hK (tL (l := xa) h)
  exc := fun c fi h => RG hK h
  range := ⟨196, by decide +kernel, rfl⟩
  enum := ⟨203, by decide +kernel, rfl⟩
  su := ⟨139, by decide +kernel, rfl⟩
end
open PySem PySem.W PySem.Calls PyProof.Rows
noncomputable def nP:DefRec:=⟨Ij "law",Vh (s1 90),t_ (s1 90),tB (s1 90),(match s1 90 with|.FunctionDef _ _ _ _ _ _ _ _ _ p=>p|_=>default)⟩
theorem Mx:defOf q0 IX.row.name=JS (nP,[]):=by kernel_rfl
theorem Mq:IX.row.prog.theDef IX.row.name=JS (nP.params,nP.body,nP.scope):=by kernel_rfl
noncomputable def rp(w:World)(h:Im):Prop:=C3 ((KL w.params).In h) (∀p∈oJ,rg h p.1=JS (Ij p.2)) (h.get? sysModules≠none)
theorem Rm{h h':Im}(k:∀b o,h.get? b=JS o->h'.get? b=JS o){a:Nat}{x:Str}(e:rg h a=JS x):rg h' a=JS x:=by unfold rg jt at e⊢;cases q:h.get? a with|none=>rw[q]at e;cases e|some o=>rw[q]at e;rw[k a o q];exact e
theorem rp.of{w:World}{s:JI}(e:gf s=mQ w):rp w s.heap:=by obtain⟨e1,e2⟩:=IQ e;obtain⟨e2,e3⟩:=IQ e2;refine⟨Frag.in_of (as:=KA) (by kernel_rfl) e1,λp hp=>yB e2 hp,λq=>?_⟩;rw[q]at e3;cases e3
theorem rp.keeps(w:World)(h h':Im)(y:rp w h)(k:∀b o,h.get? b=JS o->h'.get? b=JS o):rp w h':=⟨y.1.keeps k,λp hp=>Rm k (y.2 p hp),λq=>by obtain⟨o,ho⟩:=Option.ne_none_iff_exists'.mp y.3;rw[k _ _ ho]at q;cases q⟩
section
variable{w:World}{B:Im}
theorem yZ{f:FM}{C:OW}{h:Im}{P:Params}{k:List Nat}{v:V}{es:List (List Nat×V)}{s:String}{t:Nat}{u:JM}{l:List (String×Nat×JM)}(e:Ij s=tx k)(h1:VR f C h v u)(h2:DR P f C h es (rU P l)):DR P f C h ((k,v)::es) (rU P ((s,t,u)::l)):=⟨t,u,rU P l,by rw[<-e];rfl,h1,h2⟩
theorem yE{f:FM}{C:OW}{h:Im}{s:List Nat}{x:String}{t:Nat}(e:Ij x=tx s):VR f C h (.str s) (kv x t):=⟨t,by rw[<-e];rfl⟩
theorem Ra{f:FM}{C:OW}{h:Im}{P:Params}:DR P f C h oN (rU P gX):=(yZ (by kernel_rfl) rfl (yZ (by kernel_rfl) (yE (by kernel_rfl)) (yZ (by kernel_rfl) (yE (by kernel_rfl)) (yZ (by kernel_rfl) (yE (by kernel_rfl)) (yZ (by kernel_rfl) rfl (yZ (by kernel_rfl) rfl (yZ (by kernel_rfl) rfl (yZ (by kernel_rfl) (yE (by kernel_rfl)) (yZ (by kernel_rfl) (yE (by kernel_rfl)) (yZ (by kernel_rfl) (yE (by kernel_rfl)) (yZ (by kernel_rfl) (yE (by kernel_rfl)) (yZ (by kernel_rfl) (yE (by kernel_rfl)) (yZ (by kernel_rfl) (yE (by kernel_rfl)) (yZ (by kernel_rfl) (yE (by kernel_rfl)) (yZ (by kernel_rfl) (yE (by kernel_rfl)) (yZ (by kernel_rfl) (yE (by kernel_rfl)) (yZ (by kernel_rfl) (yE (by kernel_rfl)) (yZ (by kernel_rfl) (yE (by kernel_rfl)) (yZ (by kernel_rfl) (yE (by kernel_rfl)) (yZ (by kernel_rfl) (yE (by kernel_rfl)) (yZ (by kernel_rfl) (yE (by kernel_rfl)) (yZ (by kernel_rfl) (yE (by kernel_rfl)) (yZ (by kernel_rfl) (yE (by kernel_rfl)) (yZ (by kernel_rfl) (yE (by kernel_rfl)) (yZ (by kernel_rfl) (yE (by kernel_rfl)) (yZ (by kernel_rfl) (yE (by kernel_rfl)) (yZ (by kernel_rfl) (yE (by kernel_rfl)) (yZ (by kernel_rfl) (yE (by kernel_rfl)) (yZ (by kernel_rfl) (yE (by kernel_rfl)) (yZ (by kernel_rfl) (yE (by kernel_rfl)) (yZ (by kernel_rfl) (yE (by kernel_rfl)) (yZ (by kernel_rfl) (yE (by kernel_rfl)) (yZ (by kernel_rfl) (yE (by kernel_rfl)) (yZ (by kernel_rfl) (yE (by kernel_rfl)) (yZ (by kernel_rfl) (yE (by kernel_rfl)) (yZ (by kernel_rfl) (yE (by kernel_rfl)) (yZ (by kernel_rfl) (yE (by kernel_rfl)) (yZ (by kernel_rfl) (yE (by kernel_rfl)) (yZ (by kernel_rfl) (yE (by kernel_rfl)) (yZ (by kernel_rfl) (yE (by kernel_rfl)) rfl))))))))))))))))))))))))))))))))))))))))
theorem R_{f:FM}{C:OW}{h:Im}(hK:(KL w.params).In B)(k:∀c o,B.get? c=JS o->C c=none/\h.get? c=JS o):DR w.params f C h nJ (rU w.params dM):=(yZ (by kernel_rfl) (rG hK k (a:=637) (l:=[(kv "Kernel" 1269)]) (ep:=0) (by kernel_rfl) (vD (by kernel_rfl) rfl)) (yZ (by kernel_rfl) (rG hK k (a:=638) (l:=[(kv "Comparable" 1271)]) (ep:=0) (by kernel_rfl) (vD (by kernel_rfl) rfl)) (yZ (by kernel_rfl) (rG hK k (a:=639) (l:=[(kv "Comparable" 1273)]) (ep:=0) (by kernel_rfl) (vD (by kernel_rfl) rfl)) (yZ (by kernel_rfl) (rG hK k (a:=640) (l:=[(kv "Comparable" 1275)]) (ep:=0) (by kernel_rfl) (vD (by kernel_rfl) rfl)) (yZ (by kernel_rfl) (rG hK k (a:=641) (l:=[(kv "Enumerable" 1277)]) (ep:=0) (by kernel_rfl) (vD (by kernel_rfl) rfl)) (yZ (by kernel_rfl) (rG hK k (a:=642) (l:=[(kv "Enumerable" 1279)]) (ep:=0) (by kernel_rfl) (vD (by kernel_rfl) rfl)) (yZ (by kernel_rfl) (rG hK k (a:=643) (l:=[(kv "Enumerable" 1281)]) (ep:=0) (by kernel_rfl) (vD (by kernel_rfl) rfl)) rfl)))))))
noncomputable def f0(l:J0):FM:=λn=>if n=0 then JS 633 else if n=1 then JS 636 else if n=2 then JS l else none
theorem XY{f:FM}{C:OW}{h:Im}:∀{vs:List JM}{ns:List Int},IntsAre vs ns->zS f C h (w8 ns) vs|_,_,.nil=>rfl|_,_,.cons i t x=>⟨_,_,rfl,⟨t,rfl⟩,XY x⟩
theorem M5(hK:(KL w.params).In B){l:J0}{vs:List JM}{ns:List Int}(hl:B.get? l=JS {cls:=.type "list",data:=.seq vs.toArray})(hi:IntsAre vs ns):Rel w.params B z0 (f0 l) (λzz=>none) (S2 ns) B:=by
 refine⟨λzz zz e=>e,λzz zz e=>(nomatch e),λzz zz e=>(nomatch e),λn a e=>?_,λn a e=>?_,λn o e=>?_⟩
 .have:n<3:=I6 λq=>by unfold f0 at e;rw[if_neg (by omega),if_neg (by omega),if_neg (by omega)]at e;cases e
  exact this
 .unfold z0 at e;unfold f0;split at e;.rw[if_pos ‹_›];exact e
  .split at e;.rewrite[if_neg ‹_›];rw[if_pos ‹_›];exact e
   .cases e
 .match n,e with|0,e=>cases e;exact⟨633,rfl,(rU w.params gX).toArray,40,hK 633 _ (by kernel_rfl),Ra,by decide⟩|1,e=>cases e;exact⟨636,rfl,(rU w.params dM).toArray,7,hK 636 _ (by kernel_rfl),R_ hK λzz zz e=>⟨rfl,e⟩,by decide⟩|2,e=>cases e;exact⟨l,rfl,_,_,_,hl,XY hi⟩
end
set_option tactic.hygienic true in theorem walk:WalkO q0 pJ (λzz zz=>True) rp IX.row.toRowW nP [] λf vs=>E_ f vs:=by
 intro w yR zd mg mb G Y a o pm cd doc dV kV h1 h2 h3 h4 h5 h6 args vals as PE PW PB pS PV;obtain⟨hK,hC,hS⟩:=Y;wrow_args PE PW PB pS PV;rename_i ns _ _ _ _ _ _ _ l vs _ hL _ w1 _ hI _ hc _;have hlen:ns.length<=1000:=by omega
 obtain⟨oL,YA,_,n,QK⟩:=hL;have eM:zd.heap.get? l=JS {cls:=.type "list",data:=.seq vs.toArray}:=by have w2:Well w.params zd.heap (.ref l) (.list (ofPys (ns.map .int))):=w1;cases w2 with|list hl hw=>rw[YA]at hl;cases hl;rw[YA];injection QK with e1 e2;rw[e1]
 have ha:a=994:=by
  obtain⟨o',es,ep,g1,g2,_,g3⟩:=G.T.g;obtain⟨o2,Jy,RS,k1,k2,_,k3⟩:=Wm hK;rw[g1]at k1;cases k1;rw[g2]at k2;cases k2;have e:nsFind (nL w.params).toArray (Ij "law")=JS (.ref 994):=by kernel_rfl
  have h5:mg (Ij "law")=JS (.ref a):=h5;rw[<-g3,k3,e]at h5;cases h5;rfl
 subst ha;have F:=facts hK hC G.T.b G.T.builtins hS;obtain⟨zv,Q1⟩:=MV (b:=wu w zd.heap) (ns:=ns) hlen;have ak:xV ⟨wu w zd.heap,JT,JT,41⟩ callerA (λzz=>none) zd.heap:=⟨show callerA.depth+3*41+20<=recursionLimit by decide+kernel,show callerA.units+10*41+200<=cLine by decide+kernel,G.T.nolimit,F,λzz=>rfl,[],rfl,trivial,λzz h=>nomatch h⟩;have W0:=Q1.go (A:=callerA) (f:=f0 l) (C:=λzz=>none) (s:=zd) (xY:=.ref 994) (vals:=[.ref l]) (M5 hK eM hI) ak rfl ⟨_,_,rfl,⟨l,rfl,rfl⟩,rfl⟩;refine JC W0 (λv s' p=>?_) λe s' p=>p.elim;obtain⟨f',zm,dn,hv⟩:=p;cases(show v=.bool JQ from hv);exact GoodW.toG ⟨.inl ⟨_,.bool JQ,[],rfl,λzz=>rfl,.bool JQ,by kernel_rfl,λzz=>⟨HZ,λzz h=>nomatch h⟩⟩,dn.rel.base,dn.os,dn.gens.trans h6⟩
end Mine
theorem PySem.Challenge.cw_nz0053_01_holds : PySem.Challenge.rw_nz0053_01.Holds :=
  PySem.W.holds_law Mine.Mr fun Lj => PySem.W.holds_open (q := Mine.q0) (loose := Mine.pJ) (Xt := fun zz => true) (XP := fun zz zz => True) (Yf := Mine.gf) (Ya := Mine.mQ) (YP := Mine.rp) (d := Mine.nP) (kwd := []) (N := 15790) Mine.left (fun zz zz => Mine.rp.of) Mine.rp.keeps (fun zz zz => trivial) (fun zz zz zz zz zz => trivial) Mine.Mx Mine.Mq rfl (fun zz zz => PySem.W.recFacts_nil rfl) rfl Lj Mine.Mv ⟨rfl, rfl, rfl, rfl, rfl, by decide +kernel⟩ ⟨[.list [.int 3]], by decide +kernel, by decide +kernel⟩ Mine.walk
