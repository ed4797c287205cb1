import PyProof.Rows.All
import Wide.All
import OpenK.AllK
import Wide.FinOn
import Lean
import PySem.Challenge.RW_sa0470_01

set_option Elab.async false
set_option maxRecDepth 100000
set_option linter.all false
set_option tactic.hygienic false
set_option genSizeOf false
set_option genInjectivity false
set_option bootstrap.genMatcherCode false
set_option compiler.extract_closed false
set_option backward.match.sparseCases false

namespace Mine
@[elab_as_elim]theorem rwE {α:Sort u} {p:α->Prop} {a b:α} (h:a=b) (x:p b):p a:=h▸x
@[elab_as_elim]theorem rwF {α:Sort u} {p:α->Prop} {a b:α} (h:b=a) (x:p b):p a:=h▸x
@[elab_as_elim]theorem sC {α:Sort _} {P:α->Prop} (e:α) (h:∀R:α->Prop,(∀e,P e->R e)->R e):P e:=h P fun _ z=>z
@[elab_as_elim]theorem Ks {α β:Sort _} {P:α->β->Prop} (a:α) (b:β) (h:∀R:α->β->Prop,(∀a b,P a b->R a b)->R a b):P a b:=h P fun _ _ z=>z
end Mine
local macro_rules (kind:=Lean.Parser.Tactic.rwSeq) | s=>do
 unless s[3].isNone do Lean.Macro.throwUnsupported
 let ts←s[2][1].getSepArgs.mapM fun r=>`(tactic|first|refine$(Lean.mkIdent (if r[0].isNone then`Mine.rwE else`Mine.rwF)) ($(⟨r[1]⟩) ..) ?_|rewrite [$(⟨r⟩)])
 `(tactic|($[$ts]*;try with_reducible rfl))
open PySem.Str renaming ofString->Vg
open List renaming mem_append_right->Vh,mem_cons_of_mem->Vj,mem_append_left->Vk,mem_cons_self->Vl,getElem?_append_right->Vm,getElem?_eq_some_iff->Vn,casesOn->Vr,mem_append->Vs,mem_cons->Vv,getElem?_eq_getElem->Vw,mem_map_of_mem->Vz,prefix_append->VA,range->VE,getElem?_append_left->VF,getD_eq_getElem?_getD->VG,length_append->VH,length_map->VI,replicate->VJ,map_cons->VL,mem_of_getElem?->VP,nodup_cons->VQ,length_cons->VT,append_nil->VW,nodup_append->VX,mem_singleton->V8,mem_map->Wj,size_toArray->Wm,append_assoc->Wn,reverse_cons->Wv,getElem?_map->Ww,length_set->WB,not_mem_nil->WD,length_range->WE,drop_eq_getElem_cons->WK,zip_cons_cons->WN,take_of_length_le->WZ,getElem?_set_self->W0,getElem?_concat_length->W1,drop_of_length_le->W2,lookup_cons->W5,zip_nil_right->W7,length_singleton->W9,getElem?_eq_none->W_,getElem?_set_ne->Xa,forall_mem_cons->Xb,flatten_cons->Xc,length_reverse->Xf,perm_middle->Xh,all_eq_true->Xi,sublist_cons_self->Xo,length_drop->XJ,all_cons->XO,foldl_cons->XT,getElem?_cons_succ->XU,perm_append_comm->Yd,prefix_refl->Yg,lookup->Yn,eq_nil_of_length_eq_zero->Yo,map_append->Yq,forIn_cons->Yr,set_set->YD,Sublist->YE,getElem?_take->YJ,getElem?_eq_none_iff->YN,zip_nil_left->YQ,mem_flatMap->Y1,filter_cons->Y2,Perm->Y3,map_nil->Y9,length_nil->Za,range'->Zk,forIn_nil->Zl,foldl_nil->Zm,getElem?_drop->ZD,getElem?_inj->ZP,any_eq_false->ZQ,isEmpty_nil->Z5,isEmpty_iff->Z6,getElem_mem->Z7,drop_length->Z8
open PySem renaming wpAny_bind->Vi,Shared->Vo,wpAny_pure->Vp,Value->Vq,model->Vt,wpAny->Vy,Params->VC,Builtin->VD,isTrue->VM,Around->VN,builtinLookup_eq_fast->VO,wpAny_standAt->VY,Scope->VZ,starEach->V1,bindArgs->V5,wpAny_holding->V6,typeLookup_type->V7,wpAny_Constant_none->V',NameKind->Wf,wpAny_specialOf->Wg,backTo->Wh,callEnv->Wi,isSubtype_type->Wk,wpAny_newObj_type->Wl,spliced->Wq,execs->Wt,wpAny_field->WA,recursionLimit->WC,wpAny_of_eq->WM,assignInOrder->WT,Program->WU,wpAny_mono->W3,builtinsNs->W4,call->W6,wpAny_execs_nil->Xe,typeLookup->Xk,plainObj_wpAny_Assign_Attribute->Xm,BindsTo->Xp,wpAny_setField->Xq,noteFrame->Xr,callWith->Xs,Result->Xu,PassesOwn->Xv,Keeper->Xy,wpAny_ite_split->XA,compEnvC->XB,World->XC,wpAny_truthy_bool->XH,wpAny_load->XK,closureFor->XM,wpAny_isInstance->XQ,setFlight->XR,entryFor_of_tree->XS,entryFor->XX,standAt->Yh,newFunctionEnv->Yi,codeAny->Yj,wpAny_rule->Yt,notIterableAtAll->Yu,leaving->Yz,is_none->YA,wpAny_loadName_local->YG,pushCells->YS,wpAny_Constant_str->YW,assignEach->YY,argsOk->YZ,wpAny_excMatches_sub_self->Y4,wpAny_loadPart_at->Y6,sizeLine_eq->Y7,notedBy->Y8,wpAny_comprehension_free->Y_,swappedStores->Y',wpAny_execs_cons->Zc,wpAny_call_entry->Zd,wpAny_callSpecial?_slot->Ze,markedBehindIn_of_false->Zf,compareOp->Zg,checkBuiltinCall->Zh,isNot_none->Zq,ExcName->Zu,table->Zv,leftWithCleanup->Zw,codeAny_handlers_test->ZA,lookup_relabel_local->ZF,keeperOf->ZG,handleBy->ZH,firstArgMember->ZI,bm_if_false->ZJ,storeName->ZM,cellsFrom->ZN,wpAny_attempt->Z0,swapsWithSole->Z1,behindInMarks->Z2,strKind_is->Z_,cameBackBy->Z'
open Bool renaming casesOn->Vu,and_eq_true_iff->VS,and_eq_true->VU,false_eq_true->V0,noConfusion->V2,false_ne_true->V9,not_eq_true->Xj,or_eq_false_iff->XF,or_eq_true->Ys,or_false->YV
open PySem.Heap renaming get?_push_of_some->Vx,get?_push_size->V_,ExtBut->Wa,lt_size->Wb,get?_none_of_le->Wd,get?_update_other->WG,get?_update_self->WL,size_push->WS,SameBut->X7
open Nat renaming le_refl->VB,casesOn->V3,le_trans->V4,zero_le->Wy,min_eq_left->WJ,ne_of_lt->WO,lt_irrefl->WQ,le_of_lt->WR,not_lt->W8,lt_or_ge->Xd,le_add_right->Xl,lt_of_le_of_lt->Xw,sub_self->X_,lt_succ_self->Yk,succ->ZW
open Option renaming map_eq_some_iff->VK,some->Ye,isSome_none->YC,map_some->Y5,toList_none->Zy,getD_some->ZO,none->ZV,map_none->Z4
open PySem.W renaming typeIs_bytes->VV,tabObj->Wz,boot_heap->WY,ns_none_of->X9,dictOf->YX,keepIn->Zp
open PySem.Obj renaming mapFields->Wc,data_mapFields->YK,isFreed_of_fields->Zi
open PySem.Value renaming none->We,ref->Wo,casesOn->YO
open PySem.NameKind renaming free->Wp,cell->YI,casesOn->ZC
open Prod renaming fst->Wr
open Int renaming natCast_nonneg->Ws,toNat_natCast->WH,ofNat_inj->ZE,zero_add->ZX,add_zero->ZY
open Array renaming length_toList->Wu,toList->XZ,getElem?_toList->Yc,toList_push->ZL,getElem?_setIfInBounds_ne->ZT
open PySem.Builtin.Bytes renaming slotIsOwn->Wx,ownRelease->WI,buffer?->WW,payload->Xg,find?->X8,checkResize->Ym,joinLetGo->Yx,payload?->YH,sameRef->YM,joined->YR,write->Y0,takeBufferQuiet?->Zj,exportsOf->ZR,byteValue->ZS,exported->ZZ,tooLong->Z9
open PySem.Expr renaming Name->WV
open PySem.Calls renaming Name_function_global->WX,loadGlobal_global->XI
open PySem.Keeper renaming boundFrame->W',machine->Xz,frame->XW
open False renaming elim->Xn
open PySem.Heap.SameBut renaming update->Xx
open Ne renaming symm->XD
open Option.some renaming inj->XE
open PySem.Const renaming casesOn->XN
open PyProof.Rows.TI renaming gone_get->XY
open PySem.BindsTo renaming of_eq->Yb
open Classical renaming em->Yl,byContradiction->Yv
open List.Sublist renaming refl->Yp
open PySem.Builtin.Range renaming rangeSize->Yw,rangeFitsLong->Zz
open PyProof.Rows renaming subscriptTail->Yy
open PySem.PyData renaming keyHash->YB
open PySem.Flow renaming casesOn->YF
open PySem.ExcName renaming means->YL
open Nat.succ renaming inj->YT
open ForInStep renaming yield->YU
open PySem.Around renaming under_plainId->Zb
open PySem.W.FB renaming slot_bytes_getitem->Zn
open PySem.Builtin.Bytes.Kind renaming bytes->Zo
open PySem.Sem renaming wp_mono->Zr
open PySem.PassesOwn renaming looking->Zs,leaving->Zt,never->ZK
open Std.Legacy renaming Range->Zx
open PySem.Within renaming cons->ZU
open PySem.W.WShape renaming hasItems->Z3
section
namespace Mine
open PySem PySem.W PyProof.Rows PySem.Calls
section
noncomputable def Te(P:VC)(l:List (String×Tok×Vq))(n:Nat):Obj:={cls:=.type "dict",data:=.dict (l.map fun e=>{hash:=YB P (Vg e.1),key:=.str (Vg e.1) e.2.1,val:=e.2.2}).toArray n}
noncomputable def jc(l:List Vq):Obj:={cls:=.type "code",data:=.fields l.toArray}
noncomputable def ue(i:Nat):Stmt:=PySem.Challenge.pw_sa0470_01.main.body.getD i (.Pass default)
noncomputable def tc(i j:Nat):Stmt:=match ue i with
 |.ClassDef _ _ _ b _ _ _ _ _ _ _=>b.getD j (.Pass default)
 |s=>s
noncomputable def jd(s:Stmt)(q:Str)(d:Vq)(m:Str)(t:Tok)(c:Addr):Obj:=match s with
 |.FunctionDef n ps b _ _ _ sc _ _ _=>{cls:=.type "function",data:=.func {name:=n,qualname:=q,params:=ps,body:=.stmts b,scope:=sc,globals:=3,closure:=[],defaults:=d,kwdefaults:=.none,pyModule:=.str m t,code:=.ref c}}
 |_=>default
noncomputable def KP(P:VC):Frag:=[(28,jd (ue 5) "capture_text" .none "lua.replace" 194 27),
 (27,jc [.str "capture_text" 202,.str "capture_text" 203,.str "/claim/cut.py" 204,.int 8 0,.int 1 0,.int 0 0,.int 0 0,.int 3 0,.ref 22,.bool true,.int 181 0,.ref 23,.none,.ref 24,.ref 25,.ref 26,.int 206 0,.int 8 0,.str "/claim/cut.py" 207]),
 (36,jd (ue 6) "expanded" (.ref 29) "lua.replace" 194 35),
 (35,jc [.str "expanded" 209,.str "expanded" 210,.str "/claim/cut.py" 211,.int 10 0,.int 3 0,.int 0 0,.int 0 0,.int 3 0,.ref 30,.bool true,.int 181 0,.ref 31,.none,.ref 32,.ref 33,.ref 34,.int 218 0,.int 10 0,.str "/claim/cut.py" 219]),
 (43,jd (ue 7) "replaced" .none "lua.replace" 194 42),
 (42,jc [.str "replaced" 221,.str "replaced" 222,.str "/claim/cut.py" 223,.int 27 0,.int 5 0,.int 0 0,.int 0 0,.int 3 0,.ref 37,.bool true,.int 181 0,.ref 38,.none,.ref 39,.ref 40,.ref 41,.int 233 0,.int 27 0,.str "/claim/cut.py" 234]),
 (57,jd (tc 9 0) "LuaError.__init__" .none "lua.values" 236 56),
 (56,jc [.str "__init__" 250,.str "LuaError.__init__" 251,.str "/claim/cut.py" 252,.int 48 0,.int 2 0,.int 0 0,.int 0 0,.int 3 0,.ref 51,.bool true,.int 181 0,.ref 52,.none,.ref 53,.ref 54,.ref 55,.int 255 0,.int 48 0,.str "/claim/cut.py" 256]),
 (70,jd (ue 26) "is_lower" .none "lua.patterns" 269 69),
 (69,jc [.str "is_lower" 303,.str "is_lower" 304,.str "/claim/cut.py" 305,.int 68 0,.int 1 0,.int 0 0,.int 0 0,.int 3 0,.ref 64,.bool true,.int 181 0,.ref 65,.none,.ref 66,.ref 67,.ref 68,.int 307 0,.int 68 0,.str "/claim/cut.py" 308]),
 (77,jd (ue 27) "is_upper" .none "lua.patterns" 269 76),
 (76,jc [.str "is_upper" 310,.str "is_upper" 311,.str "/claim/cut.py" 312,.int 70 0,.int 1 0,.int 0 0,.int 0 0,.int 3 0,.ref 71,.bool true,.int 181 0,.ref 72,.none,.ref 73,.ref 74,.ref 75,.int 314 0,.int 70 0,.str "/claim/cut.py" 315]),
 (84,jd (ue 28) "is_alpha" .none "lua.patterns" 269 83),
 (83,jc [.str "is_alpha" 317,.str "is_alpha" 318,.str "/claim/cut.py" 319,.int 72 0,.int 1 0,.int 0 0,.int 0 0,.int 3 0,.ref 78,.bool true,.int 181 0,.ref 79,.none,.ref 80,.ref 81,.ref 82,.int 321 0,.int 72 0,.str "/claim/cut.py" 322]),
 (91,jd (ue 29) "is_digit" .none "lua.patterns" 269 90),
 (90,jc [.str "is_digit" 324,.str "is_digit" 325,.str "/claim/cut.py" 326,.int 74 0,.int 1 0,.int 0 0,.int 0 0,.int 3 0,.ref 85,.bool true,.int 181 0,.ref 86,.none,.ref 87,.ref 88,.ref 89,.int 328 0,.int 74 0,.str "/claim/cut.py" 329]),
 (126,jd (ue 34) "in_class" .none "lua.patterns" 269 125),
 (125,jc [.str "in_class" 359,.str "in_class" 360,.str "/claim/cut.py" 361,.int 84 0,.int 2 0,.int 0 0,.int 0 0,.int 3 0,.ref 120,.bool true,.int 181 0,.ref 121,.none,.ref 122,.ref 123,.ref 124,.int 366 0,.int 84 0,.str "/claim/cut.py" 367]),
 (141,jd (tc 35 0) "Matcher.__init__" (.ref 134) "lua.patterns" 269 140),
 (140,jc [.str "__init__" 382,.str "Matcher.__init__" 383,.str "/claim/cut.py" 384,.int 111 0,.int 5 0,.int 0 0,.int 0 0,.int 3 0,.ref 135,.bool true,.int 181 0,.ref 136,.none,.ref 137,.ref 138,.ref 139,.int 391 0,.int 111 0,.str "/claim/cut.py" 392]),
 (148,jd (tc 35 1) "Matcher.count" .none "lua.patterns" 269 147),
 (147,jc [.str "count" 394,.str "Matcher.count" 395,.str "/claim/cut.py" 396,.int 122 0,.int 1 0,.int 0 0,.int 0 0,.int 3 0,.ref 142,.bool true,.int 181 0,.ref 143,.none,.ref 144,.ref 145,.ref 146,.int 398 0,.int 122 0,.str "/claim/cut.py" 399]),
 (155,jd (tc 35 2) "Matcher.reset" .none "lua.patterns" 269 154),
 (154,jc [.str "reset" 401,.str "Matcher.reset" 402,.str "/claim/cut.py" 403,.int 126 0,.int 1 0,.int 0 0,.int 0 0,.int 3 0,.ref 149,.bool true,.int 181 0,.ref 150,.none,.ref 151,.ref 152,.ref 153,.int 405 0,.int 126 0,.str "/claim/cut.py" 406]),
 (162,jd (tc 35 3) "Matcher.at" .none "lua.patterns" 269 161),
 (161,jc [.str "at" 408,.str "Matcher.at" 409,.str "/claim/cut.py" 410,.int 132 0,.int 2 0,.int 0 0,.int 0 0,.int 3 0,.ref 156,.bool true,.int 181 0,.ref 157,.none,.ref 158,.ref 159,.ref 160,.int 413 0,.int 132 0,.str "/claim/cut.py" 414]),
 (169,jd (tc 35 4) "Matcher.class_end" .none "lua.patterns" 269 168),
 (168,jc [.str "class_end" 416,.str "Matcher.class_end" 417,.str "/claim/cut.py" 418,.int 135 0,.int 2 0,.int 0 0,.int 0 0,.int 3 0,.ref 163,.bool true,.int 181 0,.ref 164,.none,.ref 165,.ref 166,.ref 167,.int 424 0,.int 135 0,.str "/claim/cut.py" 425]),
 (176,jd (tc 35 5) "Matcher.in_set" .none "lua.patterns" 269 175),
 (175,jc [.str "in_set" 427,.str "Matcher.in_set" 428,.str "/claim/cut.py" 429,.int 157 0,.int 4 0,.int 0 0,.int 0 0,.int 3 0,.ref 170,.bool true,.int 181 0,.ref 171,.none,.ref 172,.ref 173,.ref 174,.int 436 0,.int 157 0,.str "/claim/cut.py" 437]),
 (183,jd (tc 35 6) "Matcher.is_single" .none "lua.patterns" 269 182),
 (182,jc [.str "is_single" 439,.str "Matcher.is_single" 440,.str "/claim/cut.py" 441,.int 178 0,.int 4 0,.int 0 0,.int 0 0,.int 3 0,.ref 177,.bool true,.int 181 0,.ref 178,.none,.ref 179,.ref 180,.ref 181,.int 448 0,.int 178 0,.str "/claim/cut.py" 449]),
 (190,jd (tc 35 7) "Matcher.match" .none "lua.patterns" 269 189),
 (189,jc [.str "match" 451,.str "Matcher.match" 452,.str "/claim/cut.py" 453,.int 190 0,.int 3 0,.int 0 0,.int 0 0,.int 3 0,.ref 184,.bool true,.int 181 0,.ref 185,.none,.ref 186,.ref 187,.ref 188,.int 458 0,.int 190 0,.str "/claim/cut.py" 459]),
 (197,jd (tc 35 8) "Matcher.match_here" .none "lua.patterns" 269 196),
 (196,jc [.str "match_here" 461,.str "Matcher.match_here" 462,.str "/claim/cut.py" 463,.int 199 0,.int 3 0,.int 0 0,.int 0 0,.int 3 0,.ref 191,.bool true,.int 181 0,.ref 192,.none,.ref 193,.ref 194,.ref 195,.int 473 0,.int 199 0,.str "/claim/cut.py" 474]),
 (204,jd (tc 35 9) "Matcher.match_special" .none "lua.patterns" 269 203),
 (203,jc [.str "match_special" 476,.str "Matcher.match_special" 477,.str "/claim/cut.py" 478,.int 237 0,.int 4 0,.int 0 0,.int 0 0,.int 3 0,.ref 198,.bool true,.int 181 0,.ref 199,.none,.ref 200,.ref 201,.ref 202,.int 483 0,.int 237 0,.str "/claim/cut.py" 484]),
 (211,jd (tc 35 10) "Matcher.match_balance" .none "lua.patterns" 269 210),
 (210,jc [.str "match_balance" 486,.str "Matcher.match_balance" 487,.str "/claim/cut.py" 488,.int 244 0,.int 3 0,.int 0 0,.int 0 0,.int 3 0,.ref 205,.bool true,.int 181 0,.ref 206,.none,.ref 207,.ref 208,.ref 209,.int 496 0,.int 244 0,.str "/claim/cut.py" 497]),
 (225,jd (tc 35 12) "Matcher.expand_most" .none "lua.patterns" 269 224),
 (224,jc [.str "expand_most" 511,.str "Matcher.expand_most" 512,.str "/claim/cut.py" 513,.int 274 0,.int 4 0,.int 0 0,.int 0 0,.int 3 0,.ref 219,.bool true,.int 181 0,.ref 220,.none,.ref 221,.ref 222,.ref 223,.int 520 0,.int 274 0,.str "/claim/cut.py" 521]),
 (232,jd (tc 35 13) "Matcher.expand_least" .none "lua.patterns" 269 231),
 (231,jc [.str "expand_least" 523,.str "Matcher.expand_least" 524,.str "/claim/cut.py" 525,.int 286 0,.int 4 0,.int 0 0,.int 0 0,.int 3 0,.ref 226,.bool true,.int 181 0,.ref 227,.none,.ref 228,.ref 229,.ref 230,.int 531 0,.int 286 0,.str "/claim/cut.py" 532]),
 (239,jd (tc 35 14) "Matcher.start_capture" .none "lua.patterns" 269 238),
 (238,jc [.str "start_capture" 534,.str "Matcher.start_capture" 535,.str "/claim/cut.py" 536,.int 295 0,.int 4 0,.int 0 0,.int 0 0,.int 3 0,.ref 233,.bool true,.int 181 0,.ref 234,.none,.ref 235,.ref 236,.ref 237,.int 542 0,.int 295 0,.str "/claim/cut.py" 543]),
 (246,jd (tc 35 15) "Matcher.end_capture" .none "lua.patterns" 269 245),
 (245,jc [.str "end_capture" 545,.str "Matcher.end_capture" 546,.str "/claim/cut.py" 547,.int 306 0,.int 3 0,.int 0 0,.int 0 0,.int 3 0,.ref 240,.bool true,.int 181 0,.ref 241,.none,.ref 242,.ref 243,.ref 244,.int 553 0,.int 306 0,.str "/claim/cut.py" 554]),
 (253,jd (tc 35 16) "Matcher.to_close" .none "lua.patterns" 269 252),
 (252,jc [.str "to_close" 556,.str "Matcher.to_close" 557,.str "/claim/cut.py" 558,.int 314 0,.int 1 0,.int 0 0,.int 0 0,.int 3 0,.ref 247,.bool true,.int 181 0,.ref 248,.none,.ref 249,.ref 250,.ref 251,.int 561 0,.int 314 0,.str "/claim/cut.py" 562]),
 (267,jd (tc 35 18) "Matcher.capture" .none "lua.patterns" 269 266),
 (266,jc [.str "capture" 576,.str "Matcher.capture" 577,.str "/claim/cut.py" 578,.int 332 0,.int 4 0,.int 0 0,.int 0 0,.int 3 0,.ref 261,.bool true,.int 181 0,.ref 262,.none,.ref 263,.ref 264,.ref 265,.int 585 0,.int 332 0,.str "/claim/cut.py" 586]),
 (272,jd (tc 35 19) "Matcher.captures" .none "lua.patterns" 269 271),
 (271,jc [.str "captures" 588,.str "Matcher.captures" 589,.str "/claim/cut.py" 590,.int 342 0,.int 4 0,.int 0 0,.int 0 0,.int 3 0,.ref 268,.bool true,.int 181 0,.ref 269,.none,.none,.none,.ref 270,.int 591 0,.int 342 0,.str "/claim/cut.py" 592]),
 (293,jd (ue 37) "first_match" .none "lua.textcore" 620 292),
 (292,jc [.str "first_match" 622,.str "first_match" 623,.str "/claim/cut.py" 624,.int 349 0,.int 4 0,.int 0 0,.int 0 0,.int 3 0,.ref 287,.bool true,.int 181 0,.ref 288,.none,.ref 289,.ref 290,.ref 291,.int 630 0,.int 349 0,.str "/claim/cut.py" 631]),
 (300,jd (ue 38) "behind_match" .none "lua.textcore" 620 299),
 (299,jc [.str "behind_match" 633,.str "behind_match" 634,.str "/claim/cut.py" 635,.int 358 0,.int 2 0,.int 0 0,.int 0 0,.int 3 0,.ref 294,.bool true,.int 181 0,.ref 295,.none,.ref 296,.ref 297,.ref 298,.int 638 0,.int 358 0,.str "/claim/cut.py" 639]),
 (308,jd (ue 41) "_law_told" .none "law_sa0470_01" 641 307),
 (307,jc [.str "_law_told" 660,.str "_law_told" 661,.str "/claim/cut.py" 662,.int 362 0,.int 2 0,.int 0 0,.int 0 0,.int 3 0,.ref 302,.bool true,.int 181 0,.ref 303,.none,.ref 304,.ref 305,.ref 306,.int 666 0,.int 362 0,.str "/claim/cut.py" 667]),
 (315,jd (ue 42) "_law_ends" .none "law_sa0470_01" 641 314),
 (314,jc [.str "_law_ends" 669,.str "_law_ends" 670,.str "/claim/cut.py" 671,.int 368 0,.int 1 0,.int 0 0,.int 0 0,.int 3 0,.ref 309,.bool true,.int 181 0,.ref 310,.none,.ref 311,.ref 312,.ref 313,.int 675 0,.int 368 0,.str "/claim/cut.py" 676]),
 (322,jd (ue 43) "_law_give" .none "law_sa0470_01" 641 321),
 (321,jc [.str "_law_give" 678,.str "_law_give" 679,.str "/claim/cut.py" 680,.int 374 0,.int 2 0,.int 0 0,.int 0 0,.int 3 0,.ref 316,.bool true,.int 181 0,.ref 317,.none,.ref 318,.ref 319,.ref 320,.int 686 0,.int 374 0,.str "/claim/cut.py" 687]),
 (329,jd (ue 44) "_law_replaced" .none "law_sa0470_01" 641 328),
 (328,jc [.str "_law_replaced" 689,.str "_law_replaced" 690,.str "/claim/cut.py" 691,.int 384 0,.int 5 0,.int 0 0,.int 0 0,.int 3 0,.ref 323,.bool true,.int 181 0,.ref 324,.none,.ref 325,.ref 326,.ref 327,.int 698 0,.int 384 0,.str "/claim/cut.py" 699]),
 (336,jd (ue 45) "_law_spans" .none "law_sa0470_01" 641 335),
 (335,jc [.str "_law_spans" 701,.str "_law_spans" 702,.str "/claim/cut.py" 703,.int 390 0,.int 2 0,.int 0 0,.int 0 0,.int 3 0,.ref 330,.bool true,.int 181 0,.ref 331,.none,.ref 332,.ref 333,.ref 334,.int 712 0,.int 390 0,.str "/claim/cut.py" 713]),
 (343,jd (ue 46) "_law_laid" .none "law_sa0470_01" 641 342),
 (342,jc [.str "_law_laid" 715,.str "_law_laid" 716,.str "/claim/cut.py" 717,.int 402 0,.int 2 0,.int 0 0,.int 0 0,.int 3 0,.ref 337,.bool true,.int 181 0,.ref 338,.none,.ref 339,.ref 340,.ref 341,.int 724 0,.int 402 0,.str "/claim/cut.py" 725]),
 (348,jd (ue 47) "law" .none "law_sa0470_01" 641 347),
 (347,jc [.str "law" 727,.str "law" 728,.str "/claim/cut.py" 729,.int 407 0,.int 1 0,.int 0 0,.int 0 0,.int 3 0,.ref 344,.bool true,.int 181 0,.ref 345,.none,.none,.none,.ref 346,.int 730 0,.int 407 0,.str "/claim/cut.py" 731]),
 (3,Te P [("__name__",165,.str "law_sa0470_01" 641),("__doc__",166,.none),("__package__",167,.none),("__loader__",168,.builtin "__main__.__loader__#opaque"),("__spec__",169,.none),("__annotations__",170,.ref 6),("__builtins__",171,.ref 4),("__file__",173,.str "/claim/cut.py" 172),("__cached__",174,.none),("_wall",193,.ref 21),("ESCAPE_SIGN",197,.int 37 196),("ZERO_SIGN",199,.int 48 198),("NINE_SIGN",201,.int 57 200),("capture_text",208,.ref 28),("expanded",220,.ref 36),("replaced",235,.ref 43),("LuaError",268,.ref 60),("MOST_CAPTURES",272,.int 32 271),("UNFINISHED",275,.int (-1) 274),("POSITION",278,.int (-2) 277),("ESCAPE",280,.int 37 279),("CARET",282,.int 94 281),("DOLLAR",284,.int 36 283),("DOT",286,.int 46 285),("OPEN",288,.int 40 287),("CLOSE",290,.int 41 289),("SET_OPEN",292,.int 91 291),("SET_CLOSE",294,.int 93 293),("STAR",296,.int 42 295),("PLUS",298,.int 43 297),("MINUS",300,.int 45 299),("MARK",302,.int 63 301),("is_lower",309,.ref 70),("is_upper",316,.ref 77),("is_alpha",323,.ref 84),("is_digit",330,.ref 91),("is_space",337,.ref 98),("is_control",344,.ref 105),("is_punctuation",351,.ref 112),("is_hex",358,.ref 119),("in_class",368,.ref 126),("Matcher",619,.ref 282),("first_match",632,.ref 293),("behind_match",640,.ref 300),("_law_pieces",659,.ref 301),("_law_told",668,.ref 308),("_law_ends",677,.ref 315),("_law_give",688,.ref 322),("_law_replaced",700,.ref 329),("_law_spans",714,.ref 336),("_law_laid",726,.ref 343),("law",732,.ref 348)] 52),
 (59,Te P [("__module__",245,.str "lua.values" 236),("__firstlineno__",249,.int 46 248),("__init__",257,.ref 57),("__static_attributes__",261,.ref 58),("__weakref__",263,.ref 61),("__doc__",264,.none)] 3),
 (281,Te P [("__module__",376,.str "lua.patterns" 269),("__firstlineno__",380,.int 109 379),("__init__",393,.ref 141),("count",400,.ref 148),("reset",407,.ref 155),("at",415,.ref 162),("class_end",426,.ref 169),("in_set",438,.ref 176),("is_single",450,.ref 183),("match",460,.ref 190),("match_here",475,.ref 197),("match_special",485,.ref 204),("match_balance",498,.ref 211),("match_frontier",510,.ref 218),("expand_most",522,.ref 225),("expand_least",533,.ref 232),("start_capture",544,.ref 239),("end_capture",555,.ref 246),("to_close",563,.ref 253),("match_capture",575,.ref 260),("capture",587,.ref 267),("captures",593,.ref 272),("search",603,.ref 279),("__static_attributes__",612,.ref 280),("__dict__",614,.ref 283),("__weakref__",616,.ref 284),("__doc__",617,.none)] 4),
 (29,{cls:=.type "tuple",data:=.seq #[.none]}),
 (134,{cls:=.type "tuple",data:=.seq #[.int 60 381,.none]}),
 (60,{cls:=.type "type",data:=.cls {name:="LuaError",bases:=[.type "Exception"],mro:=[.ref 60,.type "Exception",.type "BaseException",.type "object"],ns:=59,qualname:="LuaError"},slots:=#[some (.ref 44),none,some (.str "LuaError" 238),some (.str "LuaError" 246),some (.builtin "Exception.__new__"),some (.bool true)]}),
 (282,{cls:=.type "type",data:=.cls {name:="Matcher",bases:=[.type "object"],mro:=[.ref 282,.type "object"],ns:=281,qualname:="Matcher"},slots:=#[none,none,some (.str "Matcher" 369),some (.str "Matcher" 377),some (.builtin "object.__new__"),some (.bool true)]}),
 (301,{cls:=.type "list",data:=.seq #[.bytes #[97] 643,.bytes #[45] 644,.bytes #[37,97] 645,.bytes #[40] 646,.bytes #[46] 647,.bytes #[63] 648,.bytes #[41] 649,.bytes #[98] 650,.bytes #[42] 651,.bytes #[91,97,98,93] 652,.bytes #[43] 653,.bytes #[40,41] 654,.bytes #[91,94,98,93] 655,.bytes #[37,98,40,41] 656,.bytes #[37] 657,.bytes #[91] 658]})]
noncomputable def Uq:List Addr:=[28,27,36,35,43,42,57,56,70,69,77,76,84,83,91,90,126,125,141,140,148,147,155,154,162,161,169,168,176,175,183,182,190,189,197,196,204,203,211,210,225,224,232,231,239,238,246,245,253,252,267,266,272,271,293,292,300,299,308,307,315,314,322,321,329,328,336,335,343,342,348,347,3,59,281,29,134,60,282,301]
noncomputable abbrev qT:RowW:=PySem.Challenge.rw_sa0470_01.row.toRowW
def JI(P:VC):Uq=(KP P).map (·.1):=by kernel_rfl
noncomputable def pz(tb:String->Option VD)(p:WU)(w:XC)(n₀:Nat)(ann:Option Vq):Nat->SharedT->Thread->Option SharedT
 |0,_,_=>none
 |n+1,s,t=>match through t with
  |true=>some s
  |false=>match stepOk n₀ ann t with
   |false=>none
   |true=>match stepT (denote tb) p w s t with
    |some (s',t')=>pz tb p w n₀ ann n s' t'
    |none=>none
theorem qU{tb:String->Option VD}{p:WU}{w:XC}{n₀:Nat}{ann:Option Vq}:∀{n:Nat}{s s':SharedT}{t:Thread},pz tb p w n₀ ann n s t=some s'->topRun tb p w n₀ ann n s.abs t=some s'.abs
 |0,_,_,_,h=>by cases h
 |n+1,s,s',t,h=>by
  unfold pz at h;unfold topRun;cases ht:through t with
  |true=>rw[ht]at h;cases h;rfl
  |false=>
   rw[ht]at h;cases hk:stepOk n₀ ann t with
   |false=>rw[hk]at h;cases h
   |true=>
    rw[hk]at h;cases hs:stepT (denote tb) p w s t with
    |none=>rw[hs]at h;cases h
    |some x=>
     obtain⟨s2,t2⟩:=x;rw[hs]at h;dsimp only at h⊢;rw[stepT_spec hs];exact qU h
noncomputable def HC:List Obj->Nat->BT->BT
 |[],_,t=>t
 |o::r,i,t=>HC r (i+1) (t.ins i o)
noncomputable def PV(P:VC):BT:=HC (WY P).objs.toList 0 .nil
noncomputable def Br(P:VC):Nat:=(WY P).objs.size
noncomputable def HB(w:XC)(os:OsState):SharedT:=⟨PV w.params,Br w.params,(WY w.params).life,#[],boot_drawn,boot_toks,os⟩
def Bs(w:XC)(os:OsState):(HB w os).abs=⟨WY w.params,#[],boot_drawn,boot_toks,os⟩:=by kernel_rfl
noncomputable abbrev i_:WU:=PySem.Challenge.pw_sa0470_01
noncomputable def fP:WU:=view i_ ((VE 48).filter fun i=> !([1,8,10,36,6,40].contains i))
noncomputable abbrev j6:List Str:=[Vg "expanded",Vg "_law_pieces"]
noncomputable abbrev dS:Hook:=kmHook KP Uq JI [317,310]
noncomputable abbrev Dn(s:Vo):Bool:=xlAt fP [] s&&recOk (RowW.records qT) s
def FA(w:XC):((WY w.params).isNs mainGlobals&&(#[]:Array GenState).size==0,(WY w.params).objs.size,(WY w.params).nsMap mainGlobals "__annotations__")=(true,Br w.params,(WY w.params).nsMap mainGlobals "__annotations__"):=by kernel_rfl
def E_:∀w:XC,(fencedOpening treeTable i_ w 4282).map (fun s=>(s.heap,s.gens,s.drawn,s.toks))=some (WY w.params,Array.mk [],boot_drawn,boot_toks):=
 boot_open (by kernel_rfl) (by kernel_rfl) (fun _=>by kernel_rfl)
def J1(w:XC)(os:OsState):(pz treeTable i_ w (Br w.params) ((WY w.params).nsMap mainGlobals "__annotations__") 4282 (HB w os) (topStub i_)).map (fun x=>
  (staticsOk (importedModules i_.main.body) (WY w.params) x.abs.heap&&namesBound i_ x.abs.heap&&gensDone x.abs&&laidKept (WY w.params) x.abs.heap,
   openSeen fP j6 (importedModules i_.main.body) Dn true x.abs,dS.obs x.abs))=some (true,openGood fP j6,dS.val w):=by kernel_rfl
end
end Mine
end
section
namespace Mine
section
def i0{A0:Sort _}{p0 p1:A0->Prop}(x0:A0)(h0:p0 x0)(h1:p1 x0):∃x0,p0 x0/\p1 x0:=⟨x0,h0,h1⟩
def i1{A0 A1:Sort _}{p0 p1 p2:A0->A1->Prop}(x0:A0)(x1:A1)(h0:p0 x0 x1)(h1:p1 x0 x1)(h2:p2 x0 x1):∃x0 x1,p0 x0 x1/\p1 x0 x1/\p2 x0 x1:=⟨x0,x1,h0,h1,h2⟩
def i2{A0 A1:Sort _}{p0 p1:A0->A1->Prop}(x0:A0)(x1:A1)(h0:p0 x0 x1)(h1:p1 x0 x1):∃x0 x1,p0 x0 x1/\p1 x0 x1:=⟨x0,x1,h0,h1⟩
def i3{A0 A1 A2 A3 A4:Sort _}{p0 p1 p2 p3:A0->A1->A2->A3->A4->Prop}(x0:A0)(x1:A1)(x2:A2)(x3:A3)(x4:A4)(h0:p0 x0 x1 x2 x3 x4)(h1:p1 x0 x1 x2 x3 x4)(h2:p2 x0 x1 x2 x3 x4)(h3:p3 x0 x1 x2 x3 x4):∃x0 x1 x2 x3 x4,p0 x0 x1 x2 x3 x4/\p1 x0 x1 x2 x3 x4/\p2 x0 x1 x2 x3 x4/\p3 x0 x1 x2 x3 x4:=⟨x0,x1,x2,x3,x4,h0,h1,h2,h3⟩
def i4{A0:Sort _}{p0:A0->Prop}(x0:A0)(h0:p0 x0):∃x0,p0 x0:=⟨x0,h0⟩
def i5{A0 A1:Sort _}{p0:A0->A1->Prop}(x0:A0)(x1:A1)(h0:p0 x0 x1):∃x0 x1,p0 x0 x1:=⟨x0,x1,h0⟩
def i6{A0 A1:Sort _}{p0 p1 p2 p3:A0->A1->Prop}(x0:A0)(x1:A1)(h0:p0 x0 x1)(h1:p1 x0 x1)(h2:p2 x0 x1)(h3:p3 x0 x1):∃x0 x1,p0 x0 x1/\p1 x0 x1/\p2 x0 x1/\p3 x0 x1:=⟨x0,x1,h0,h1,h2,h3⟩
def i7{A0 A1:Sort _}{p0 p1:A0->Prop}{p2:A0->A1->Prop}(x0:A0)(h0:p0 x0)(h1:p1 x0)(x1:A1)(h2:p2 x0 x1):∃x0,p0 x0/\p1 x0/\∃x1,p2 x0 x1:=⟨x0,h0,h1,x1,h2⟩
def i8{A0:Sort _}{p0 p1 p2:A0->Prop}(x0:A0)(h0:p0 x0)(h1:p1 x0)(h2:p2 x0):∃x0,p0 x0/\p1 x0/\p2 x0:=⟨x0,h0,h1,h2⟩
def i9{A0:Sort _}{p0:Prop}{p1:A0->Prop}(h0:p0)(x0:A0)(h1:p1 x0):p0/\∃x0,p1 x0:=⟨h0,x0,h1⟩
def uX{A0:Sort _}{p0:Prop}{p1 p2:A0->Prop}(h0:p0)(x0:A0)(h1:p1 x0)(h2:p2 x0):p0/\∃x0,p1 x0/\p2 x0:=⟨h0,x0,h1,h2⟩
def Qk{A0 A1 A2:Sort _}{p0 p1:A0->A1->A2->Prop}(x0:A0)(x1:A1)(x2:A2)(h0:p0 x0 x1 x2)(h1:p1 x0 x1 x2):∃x0 x1 x2,p0 x0 x1 x2/\p1 x0 x1 x2:=⟨x0,x1,x2,h0,h1⟩
def Ql{A0:Sort _}{p0 p1 p2 p3:A0->Prop}(x0:A0)(h0:p0 x0)(h1:p1 x0)(h2:p2 x0)(h3:p3 x0):∃x0,p0 x0/\p1 x0/\p2 x0/\p3 x0:=⟨x0,h0,h1,h2,h3⟩
namespace Ln
set_option genCtorIdx false in
inductive T where
 |N (k:Nat)|V (i:Nat)|P (a b:T)|S (a b:T)|M (k:Nat) (a:T)
 |C (a:T)|Z (k:Int)|W (i:Nat)|Q (a b:T)|D (a b:T)|K (k:Int) (a:T)
 |L (a b:T)|E (a b:T)|G (a b:T)|H (a b:T)|I (a b:T)|A (a b:T)|O (a b:T)|F
noncomputable def dT(x:List Nat):T->Nat
 |.N k=>k
 |.V i=>x.getD i 0
 |.P a b=>dT x a+dT x b
 |.S a b=>dT x a-dT x b
 |.M k a=>k*dT x a
 |_=>0
noncomputable def dI(x:List Nat)(z:List Int):T->Int
 |.C a=>(dT x a:Int)
 |.Z k=>k
 |.W i=>z.getD i 0
 |.Q a b=>dI x z a+dI x z b
 |.D a b=>dI x z a-dI x z b
 |.K k a=>k*dI x z a
 |_=>0
noncomputable def dF(x:List Nat)(z:List Int):T->Prop
 |.L a b=>dT x a<=dT x b
 |.E a b=>dT x a=dT x b
 |.G a b=>dI x z a<=dI x z b
 |.H a b=>dI x z a=dI x z b
 |.I a b=>dF x z a->dF x z b
 |.A a b=>dF x z a/\dF x z b
 |.O a b=>dF x z a\/dF x z b
 |.F=>False
 |_=>True
abbrev R:=Int×List Int
noncomputable def rF:List Int->List Int->Int
 |c::r,x::v=>c*x+rF r v
 |_,_=>0
noncomputable def ev(r:R)(v:List Int):Int:=r.1+rF r.2 v
noncomputable def ad:List Int->List Int->List Int
 |a::r,b::s=>(a+b)::ad r s
 |[],s=>s
 |r,[]=>r
noncomputable def lc(k:Int)(p:R)(l:Int)(q:R):R:=(k*p.1+l*q.1,ad (p.2.map (k* ·)) (q.2.map (l* ·)))
noncomputable def un(i:Nat):R:=(0,VJ i 0++[1])
noncomputable def hd(r:R):Int:=r.2.headD 0
noncomputable def tl(r:R):R:=(r.1,r.2.tail)
noncomputable def fm:Nat->List R->Bool
 |0,rs=>rs.any fun r=>decide (r.1<0)
 |n+1,rs=>fm n ((rs.filter fun r=>hd r==0).map tl++(rs.filter fun r=>decide (0<hd r)).flatMap fun p=>(rs.filter fun r=>decide (hd r<0)).map fun q=>tl (lc (-hd q) p (hd p) q))
def Kt{a b c d:Int}:a+b+(c+d)=a+c+(b+d):=by omega
theorem B9:∀r s v,rF (ad r s) v=rF r v+rF s v
 |[],_,_=>(ZX _).symm
 |_::_,[],_=>(ZY _).symm
 |_::_,_::_,[]=>rfl
 |a::r,b::s,x::v=>by
  show(a+b)*x+rF (ad r s) v=(a*x+rF r v)+(b*x+rF s v);rw[B9 r s v,Int.add_mul];exact Kt
theorem wt(k:Int):∀r v,rF (r.map (k* ·)) v=k*rF r v
 |[],_=>(Int.mul_zero k).symm
 |_::_,[]=>(Int.mul_zero k).symm
 |a::r,x::v=>by
  show k*a*x+rF (r.map (k* ·)) v=k*(a*x+rF r v);rw[wt k r v,Int.mul_add,Int.mul_assoc]
def dX(k l:Int)(p q:R)(v:List Int):ev (lc k p l q) v=k*ev p v+l*ev q v:=by
 show(k*p.1+l*q.1)+rF (ad (p.2.map (k* ·)) (q.2.map (l* ·))) v=k*(p.1+rF p.2 v)+l*(q.1+rF q.2 v);rw[B9,wt,wt,Int.mul_add,Int.mul_add];exact Kt
def HJ(h:hd r=0):ev (tl r) v=ev r (x::v):=by
 rcases r with⟨k,_|⟨c,r⟩⟩
 ·rfl
 ·have:c=0:=h;subst this;show k+rF r v=k+(0*x+rF r v);rw[Int.zero_mul,ZX]
def Qi(p q:R):hd (lc (-hd q) p (hd p) q)=0:=by
 rcases p with⟨k,_|⟨c,r⟩⟩<;>rcases q with⟨l,_|⟨d,s⟩⟩<;>simp[hd,lc,ad]
 rw[Int.neg_mul,Int.mul_comm];omega
theorem HK:∀(v:List Int)(rs:List R),fm v.length rs=true->(∀r∈rs,0<=ev r v)->False
 |[],rs,h,a=>by
  obtain⟨r,m,d⟩:=List.any_eq_true.mp h;have:=a r m;have d:=of_decide_eq_true d;have e:rF r.2 []=0:=by induction r.2 using Vr<;>rfl
  simp only[ev,e]at this;omega
 |x::v,rs,h,a=>by
  refine HK v _ h fun r m=>?_;rcases Vs.mp m with m|m
  ·obtain⟨p,m1,e⟩:=Wj.mp m;have m2:=List.mem_filter.mp m1;rw[←e,HJ (by simpa using m2.2)];exact a p m2.1
  ·obtain⟨p,m1,m⟩:=Y1.mp m;obtain⟨q,m2,rfl⟩:=Wj.mp m;have m1:=List.mem_filter.mp m1;have m2:=List.mem_filter.mp m2;rw[HJ (x:=x) (Qi p q),dX];have h1:=of_decide_eq_true m1.2;have h2:=of_decide_eq_true m2.2;exact Int.add_nonneg (Int.mul_nonneg (by omega) (a p m1.1)) (Int.mul_nonneg (by omega) (a q m2.1))
abbrev J:=List R×R
noncomputable def pr(f:R->R->List (List R×R))(x y:List J):List J:=x.flatMap fun p=>y.flatMap fun q=>(f p.2 q.2).map fun r=>(p.1++(q.1++r.1),r.2)
noncomputable def lt(n:Nat):T->List J
 |.N k=>[([],((k:Int),[]))]
 |.V i=>[([],un i)]
 |.P a b=>pr (fun p q=>[([],lc 1 p 1 q)]) (lt n a) (lt n b)
 |.S a b=>pr (fun p q=>[([lc 1 p (-1) q],lc 1 p (-1) q),([lc 1 q (-1) p],(0,[]))]) (lt n a) (lt n b)
 |.M k a=>(lt n a).map fun p=>(p.1,lc k p.2 0 p.2)
 |_=>[([],(0,[]))]
noncomputable def li(n:Nat):T->List J
 |.C a=>lt n a
 |.Z k=>[([],(k,[]))]
 |.W i=>[([],un (n+i))]
 |.Q a b=>pr (fun p q=>[([],lc 1 p 1 q)]) (li n a) (li n b)
 |.D a b=>pr (fun p q=>[([],lc 1 p (-1) q)]) (li n a) (li n b)
 |.K k a=>(li n a).map fun p=>(p.1,lc k p.2 0 p.2)
 |_=>[([],(0,[]))]
noncomputable def Th(s:Bool)(x y:List J):List (List R):=
 match s with
 |true=>(pr (fun p q=>[([lc 1 q (-1) p],(0,[]))]) x y).map Wr
 |false=>(pr (fun p q=>[([lc 1 (lc 1 p (-1) q) 1 (-1,[])],(0,[]))]) x y).map Wr
noncomputable def S8(s:Bool)(x y:List J):List (List R):=
 match s with
 |true=>(pr (fun p q=>[([lc 1 q (-1) p,lc 1 p (-1) q],(0,[]))]) x y).map Wr
 |false=>(pr (fun p q=>[([lc 1 (lc 1 p (-1) q) 1 (-1,[])],(0,[])),([lc 1 (lc 1 q (-1) p) 1 (-1,[])],(0,[]))]) x y).map Wr
noncomputable def cr(x y:List (List R)):List (List R):=x.flatMap fun p=>y.map fun q=>p++q
noncomputable def nf(n:Nat):T->Bool->List (List R)
 |.L a b,s=>Th s (lt n a) (lt n b)
 |.E a b,s=>S8 s (lt n a) (lt n b)
 |.G a b,s=>Th s (li n a) (li n b)
 |.H a b,s=>S8 s (li n a) (li n b)
 |.I a b,true=>nf n a false++nf n b true
 |.I a b,false=>cr (nf n a true) (nf n b false)
 |.A a b,true=>cr (nf n a true) (nf n b true)
 |.A a b,false=>nf n a false++nf n b false
 |.O a b,true=>nf n a true++nf n b true
 |.O a b,false=>cr (nf n a false) (nf n b false)
 |.F,true=>[]
 |.F,false=>[[]]
 |_,true=>[[]]
 |_,false=>[]
noncomputable def vv(x:List Nat)(z:List Int):List Int:=x.map Int.ofNat++z
def Al(v:List Int)(l:List R):Prop:=∀r∈l,0<=ev r v
inductive Tk(v:List Int)(l:List J)(k:Int):Prop
 |mk (p:J)(m:p∈l)(a:Al v p.1)(e:ev p.2 v=k):Tk v l k
inductive Fk(v:List Int)(l:List (List R)):Prop
 |mk (p:List R)(m:p∈l)(a:Al v p):Fk v l
def v7(h:Al v a)(k:Al v b):Al v (a++b):=fun r m=>(Vs.mp m).elim (h r) (k r)
def oK(h:Tk v x a)(k:Tk v y b)(g:∀p q,ev p v=a->ev q v=b->Tk v (f p q) c):Tk v (pr f x y) c:=by
 cases h;cases k;cases g _ _ e e_1;exact⟨(p.1++(p_1.1++p_2.1),p_2.2),Y1.mpr ⟨p,m,Y1.mpr ⟨p_1,m_1,Wj.mpr ⟨p_2,m_2,rfl⟩⟩⟩,v7 a_1 (v7 a_2 a_3),e_2⟩
def FE(h:ev r v=k):Tk v [([],r)] k:=⟨_,Vl,nofun,h⟩
theorem B_:∀(i:Nat)(v:List Int),rF (VJ i 0++[1]) v=v.getD i 0
 |0,[]=>rfl
 |0,x::v=>by
  show 1*x+0=x;rw[Int.one_mul,ZY]
 |i+1,[]=>rfl
 |i+1,x::v=>by
  show 0*x+rF (VJ i 0++[1]) v=v.getD i 0;rw[Int.zero_mul,ZX];exact B_ i v
def Ce(i:Nat)(v:List Int):ev (un i) v=v.getD i 0:=(ZX _).trans (B_ i v)
def Cm:∀{i:Nat},i<x.length->(vv x z).getD i 0=(x.getD i 0:Nat):=by
 induction x with
 |nil=>intro i h;cases h
 |cons a x ih=>intro i h;induction i using V3 with
  |zero=>rfl
  |succ i=>exact ih (Nat.lt_of_succ_lt_succ h)
theorem Cn:∀{x:List Nat},(vv x z).getD (x.length+i) 0=z.getD i 0
 |[]=>by simp[vv]
 |a::x=>by
  have:=Cn (z:=z) (i:=i) (x:=x);rw[VT,Nat.add_right_comm];exact this
noncomputable def JX(n:Nat):T->Bool
 |.V i=>decide (i<n)
 |.P a b|.S a b|.Q a b|.D a b|.L a b|.E a b|.G a b|.H a b|.I a b|.A a b|.O a b=>JX n a&&JX n b
 |.M _ a|.C a|.K _ a=>JX n a
 |_=>true
def TG{a b:Nat}:1*(a:Int)+1*(b:Int)=((a+b:Nat):Int):=by omega
def Tj{k a:Nat}:(k:Int)*(a:Int)+0*(a:Int)=((k*a:Nat):Int):=by simp
def TH{a b:Int}:1*a+1*b=a+b:=by omega
def S6{a b:Int}:1*a+-1*b=a-b:=by omega
def Td{k a:Int}:k*a+0*a=k*a:=by simp
def vg:∀t,JX x.length t=true->Tk (vv x z) (lt x.length t) ((dT x t:Nat):Int):=by
 intro t;induction t with
 |N k=>exact fun _=>FE (by induction vv x z using Vr<;>exact ZY _)
 |V i=>exact fun h=>FE ((Ce _ _).trans (Cm (of_decide_eq_true h)))
 |P a b iha ihb=>
  intro h;have h:=VS.mp h;refine oK (iha h.1) (ihb h.2) fun p q e1 e2=>FE ?_;rw[dX,e1,e2];exact TG
 |S a b iha ihb=>
  intro h;have h:=VS.mp h;refine oK (iha h.1) (ihb h.2) fun p q e1 e2=>?_;show Tk _ _ ((dT x a-dT x b:Nat):Int);rcases Nat.le_total (dT x b) (dT x a)with l|l
  ·have e:ev (lc 1 p (-1) q) (vv x z)=((dT x a-dT x b:Nat):Int):=by rw[dX,e1,e2];omega
   exact⟨_,Vl,fun r m=>by rw[V8.mp m,e];omega,e⟩
  ·refine⟨_,Vj _ Vl,fun r m=>by rw[V8.mp m,dX,e1,e2];omega,?_⟩;rw[Nat.sub_eq_zero_of_le l];induction vv x z using Vr<;>rfl
 |M k a ih=>
  intro h;cases ih h;refine⟨(p.1,lc k p.2 0 p.2),Wj.mpr ⟨p,m,rfl⟩,a_1,?_⟩;rw[dX,e];exact Tj
 |_=>exact fun _=>FE (by induction vv x z using Vr<;>rfl)
def ye{x:List Nat}{z:List Int}:∀t,JX x.length t=true->Tk (vv x z) (li x.length t) (dI x z t):=by
 intro t;induction t with
 |C a ih=>exact vg a
 |Z k=>exact fun _=>FE (by induction vv x z using Vr<;>exact ZY _)
 |W i=>exact fun _=>FE ((Ce _ _).trans Cn)
 |Q a b iha ihb=>
  intro h;have h:=VS.mp h;refine oK (iha h.1) (ihb h.2) fun p q e1 e2=>FE ?_;rw[dX,e1,e2];exact TH
 |D a b iha ihb=>
  intro h;have h:=VS.mp h;refine oK (iha h.1) (ihb h.2) fun p q e1 e2=>FE ?_;rw[dX,e1,e2];exact S6
 |K k a ih=>
  intro h;cases ih h;refine⟨(p.1,lc k p.2 0 p.2),Wj.mpr ⟨p,m,rfl⟩,a_1,?_⟩;rw[dX,e];exact Td
 |_=>exact fun _=>FE (by induction vv x z using Vr<;>rfl)
def sU(h:Tk v l k):Fk v (l.map Wr):=by
 cases h;exact⟨p.1,Wj.mpr ⟨p,m,rfl⟩,a⟩
def tk2(h:Al v l):Tk v ((l,(0,[]))::c) 0:=⟨_,Vl,h,by induction v using Vr<;>rfl⟩
def U8(h:Tk v c 0):Tk v (j::c) 0:=by
 cases h;exact⟨p,Vj _ m,a,e⟩
def Q0(h:0<=ev r v):Al v [r]:=fun q m=>V8.mp m▸h
def Cd(v:List Int):ev (-1,[]) v=-1:=by induction v using Vr<;>rfl
def Cx(h:Tk v l a)(k:Tk v m b):∀s:Bool,((a<=b)=(s=true))->Fk v (Th s l m)
 |true,e=>sU (oK h k fun p q e1 e2=>tk2 (Q0 (by rw[dX,e1,e2];have:=e.mpr rfl;omega)))
 |false,e=>sU (oK h k fun p q e1 e2=>tk2 (Q0 (by rw[dX,dX,e1,e2,Cd];have:¬a<=b:=fun h=>nomatch e.mp h;omega)))
def Ca(h:Tk v l a)(k:Tk v m b):∀s:Bool,((a=b)=(s=true))->Fk v (S8 s l m)
 |true,e=>sU (oK h k fun p q e1 e2=>tk2 fun r m=>by
   have:=e.mpr rfl;rcases Vv.mp m with rfl|m
   ·rw[dX,e1,e2];omega
   ·rw[V8.mp m,dX,e1,e2];omega)
 |false,e=>sU (oK h k fun p q e1 e2=>by
   have:¬a=b:=fun h=>nomatch e.mp h;rcases Int.lt_or_gt_of_ne this with g|g
   ·exact U8 (tk2 (Q0 (by rw[dX,dX,e1,e2,Cd];omega)))
   ·exact tk2 (Q0 (by rw[dX,dX,e1,e2,Cd];omega)))
def I5(h:Fk v a):Fk v (a++b):=by cases h;exact⟨p,Vk _ m,a_1⟩
def I6(h:Fk v b):Fk v (a++b):=by cases h;exact⟨p,Vh _ m,a_1⟩
def I4(h:Fk v a)(k:Fk v b):Fk v (cr a b):=by
 cases h;cases k;exact⟨p++p_1,Y1.mpr ⟨p,m,Wj.mpr ⟨p_1,m_1,rfl⟩⟩,v7 a_1 a_2⟩
def QI:∀t,JX x.length t=true->∀s:Bool,(dF x z t↔s=true)->Fk (vv x z) (nf x.length t s):=by
 intro t;induction t with
 |L a b=>intro o s h;have o:=VS.mp o;exact Cx (vg a o.1) (vg b o.2) s (propext (Int.ofNat_le.trans h))
 |E a b=>intro o s h;have o:=VS.mp o;exact Ca (vg a o.1) (vg b o.2) s (propext (ZE.trans h))
 |G a b=>intro o s h;have o:=VS.mp o;exact Cx (ye a o.1) (ye b o.2) s (propext h)
 |H a b=>intro o s h;have o:=VS.mp o;exact Ca (ye a o.1) (ye b o.2) s (propext h)
 |I a b ia ib=>
  intro o s h;have o:=VS.mp o;induction s using Vu with
  |true=>exact(Yl (dF x z a)).elim (fun g=>I6 (ib o.2 true ⟨fun _=>rfl,fun _=>h.mpr rfl g⟩)) fun g=>I5 (ia o.1 false ⟨fun k=>(g k).elim,nofun⟩)
  |false=>exact I4 (ia o.1 true ⟨fun _=>rfl,fun _=>Yv fun g=>nomatch h.mp fun k=>(g k).elim⟩) (ib o.2 false ⟨fun k=>(nomatch h.mp fun _=>k),nofun⟩)
 |A a b ia ib=>
  intro o s h;have o:=VS.mp o;induction s using Vu with
  |true=>exact I4 (ia o.1 true ⟨fun _=>rfl,fun _=>(h.mpr rfl).1⟩) (ib o.2 true ⟨fun _=>rfl,fun _=>(h.mpr rfl).2⟩)
  |false=>exact(Yl (dF x z a)).elim (fun g=>I6 (ib o.2 false ⟨fun k=>(nomatch h.mp ⟨g,k⟩),nofun⟩)) fun g=>I5 (ia o.1 false ⟨fun k=>(g k).elim,nofun⟩)
 |O a b ia ib=>
  intro o s h;have o:=VS.mp o;induction s using Vu with
  |true=>exact(h.mpr rfl).elim (fun g=>I5 (ia o.1 true ⟨fun _=>rfl,fun _=>g⟩)) fun g=>I6 (ib o.2 true ⟨fun _=>rfl,fun _=>g⟩)
  |false=>exact I4 (ia o.1 false ⟨fun k=>(nomatch h.mp (.inl k)),nofun⟩) (ib o.2 false ⟨fun k=>(nomatch h.mp (.inr k)),nofun⟩)
 |F=>intro o s h;induction s using Vu with
  |true=>exact(h.mpr rfl).elim
  |false=>exact⟨[],Vl,nofun⟩
 |_=>intro o s h;induction s using Vu with
  |true=>exact⟨[],Vl,nofun⟩
  |false=>exact nomatch h.mp trivial
noncomputable def ok(n m:Nat)(t:T):Bool:=JX n t&&(nf n t false).all fun c=>fm (n+m) ((VE n).map un++c)
def aa(x:List Nat)(t:T)(z:List Int:=[])(h:ok x.length z.length t=true:=by kernel_rfl):dF x z t:=by
 refine Yv fun g=>?_;have h:=VS.mp h;cases QI (x:=x) (z:=z) t h.1 false ⟨fun k=>(g k).elim,nofun⟩;have e:(vv x z).length=x.length+z.length:=by simp[vv]
 refine HK (vv x z) _ (e▸Xi.mp h.2 p m) fun r m=>?_;rcases Vs.mp m with m|m
 ·obtain⟨i,m1,e⟩:=Wj.mp m;rw[←e,Ce,Cm (List.mem_range.mp m1)];exact Ws _
 ·exact a r m
noncomputable abbrev a:=T.V 0
noncomputable abbrev b:=T.V 1
noncomputable abbrev c:=T.V 2
noncomputable abbrev d:=T.V 3
noncomputable abbrev e:=T.V 4
noncomputable abbrev s(x:T):T:=.P x (.N 1)
noncomputable abbrev B(x y:T):T:=.L (.P x (.N 1)) y
noncomputable abbrev X(x:T):T:=.I x .F
end Ln
@[elab_as_elim]def o0{A0:Sort _}{B:Sort _}{f:A0->B}{P:B->Prop}(v:B)(h:∃x0,f x0=v)(k:∀x0,P (f x0)):P v:=by
 obtain⟨y1,rfl⟩:=h;exact k y1
def o1{A0:Sort _}{p0 p1:A0->Prop}{T:Prop}(h:∃x0,p0 x0/\p1 x0)(k:∀x0,p0 x0->p1 x0->T):T:=by
 obtain⟨y1,y2,y3⟩:=h;exact k y1 y2 y3
def o2{A0 A1:Sort _}{p0 p1:A0->A1->Prop}{T:Prop}(h:∃x0 x1,p0 x0 x1/\p1 x0 x1)(k:∀x0 x1,p0 x0 x1->p1 x0 x1->T):T:=by
 obtain⟨y1,y2,y3,y4⟩:=h;exact k y1 y2 y3 y4
def o3{A0 A1:Sort _}{p0 p1 p2 p3:A0->A1->Prop}{T:Prop}(h:∃x0 x1,p0 x0 x1/\p1 x0 x1/\p2 x0 x1/\p3 x0 x1)(k:∀x0 x1,p0 x0 x1->p1 x0 x1->p2 x0 x1->p3 x0 x1->T):T:=by
 obtain⟨y1,y2,y3,y4,y5,y6⟩:=h;exact k y1 y2 y3 y4 y5 y6
def o4{A0 A1 A2 A3 A4:Sort _}{p0 p1 p2 p3:A0->A1->A2->A3->A4->Prop}{T:Prop}(h:∃x0 x1 x2 x3 x4,p0 x0 x1 x2 x3 x4/\p1 x0 x1 x2 x3 x4/\p2 x0 x1 x2 x3 x4/\p3 x0 x1 x2 x3 x4)(k:∀x0 x1 x2 x3 x4,p0 x0 x1 x2 x3 x4->p1 x0 x1 x2 x3 x4->p2 x0 x1 x2 x3 x4->p3 x0 x1 x2 x3 x4->T):T:=by
 obtain⟨y1,y2,y3,y4,y5,y6,y7,y8,y9⟩:=h;exact k y1 y2 y3 y4 y5 y6 y7 y8 y9
def o5{A0 A1:Sort _}{p0:A0->A1->Prop}{T:Prop}(h:∃x0 x1,p0 x0 x1)(k:∀x0 x1,p0 x0 x1->T):T:=by
 obtain⟨y1,y2,y3⟩:=h;exact k y1 y2 y3
def o6{A0 A1:Sort _}{p0 p1 p2:A0->A1->Prop}{T:Prop}(h:∃x0 x1,p0 x0 x1/\p1 x0 x1/\p2 x0 x1)(k:∀x0 x1,p0 x0 x1->p1 x0 x1->p2 x0 x1->T):T:=by
 obtain⟨y1,y2,y3,y4,y5⟩:=h;exact k y1 y2 y3 y4 y5
@[elab_as_elim]def o7{A0:Sort _}{p0:A0->Prop}{B:Sort _}{f:A0->B}{P:B->Prop}(v:B)(h:∃x0,p0 x0/\f x0=v)(k:∀x0,p0 x0->P (f x0)):P v:=by
 obtain⟨y1,y2,rfl⟩:=h;exact k y1 y2
def o8{A0:Sort _}{p0:A0->Prop}{T:Prop}(h:∃x0,p0 x0)(k:∀x0,p0 x0->T):T:=by
 obtain⟨y1,y2⟩:=h;exact k y1 y2
def o9{A0 A1 A2:Sort _}{p0 p1:A0->A1->A2->Prop}{T:Prop}(h:∃x0 x1 x2,p0 x0 x1 x2/\p1 x0 x1 x2)(k:∀x0 x1 x2,p0 x0 x1 x2->p1 x0 x1 x2->T):T:=by
 obtain⟨y1,y2,y3,y4,y5⟩:=h;exact k y1 y2 y3 y4 y5
def RA{A0 A1 A2 A3:Sort _}{p0 p1 p2:A0->A1->A2->A3->Prop}{p3:A0->Prop}{T:Prop}(h:∃x0,(∃x1 x2 x3,p0 x0 x1 x2 x3/\p1 x0 x1 x2 x3/\p2 x0 x1 x2 x3)/\p3 x0)(k:∀x0 x1 x2 x3,p0 x0 x1 x2 x3->p1 x0 x1 x2 x3->p2 x0 x1 x2 x3->p3 x0->T):T:=by
 obtain⟨y1,⟨y2,y3,y4,y5,y6,y7⟩,y8⟩:=h;exact k y1 y2 y3 y4 y5 y6 y7 y8
def Ur{T:Prop}(h:(p0/\p1)/\p2)(k:p0->p1->p2->T):T:=by
 obtain⟨⟨y1,y2⟩,y3⟩:=h;exact k y1 y2 y3
def QJ{A0 A1 A2:Sort _}{p0 p1:A0->A1->Prop}{p2 p3:A0->A1->A2->Prop}{T:Prop}(h:∃x0 x1,p0 x0 x1/\p1 x0 x1/\∃x2,p2 x0 x1 x2/\p3 x0 x1 x2)(k:∀x0 x1,p0 x0 x1->p1 x0 x1->∀x2,p2 x0 x1 x2->p3 x0 x1 x2->T):T:=by
 obtain⟨y1,y2,y3,y4,y5,y6,y7⟩:=h;exact k y1 y2 y3 y4 y5 y6 y7
def kY{T:Prop}(h:p0/\p1)(k:p0->p1->T):T:=by
 obtain⟨y1,y2⟩:=h;exact k y1 y2
def qX{T:Prop}(h:p0/\p1/\p2)(k:p0->p1->p2->T):T:=by
 obtain⟨y1,y2,y3⟩:=h;exact k y1 y2 y3
@[elab_as_elim]def cX{A0:Sort _}{B:Sort _}{f:A0->B}{P:B->Prop}(v:B)(h:∃x0,v=f x0)(k:∀x0,P (f x0)):P v:=by
 obtain⟨y1,rfl⟩:=h;exact k y1
@[elab_as_elim]def jb{A0:Sort _}{p0:A0->Prop}{B:Sort _}{f:A0->B}{P:B->Prop}(v:B)(h:∃x0,p0 x0/\v=f x0)(k:∀x0,p0 x0->P (f x0)):P v:=by
 obtain⟨y1,y2,rfl⟩:=h;exact k y1 y2
def RB{A0 A1 A2:Sort _}{p0 p1 p2 p3:A0->A1->A2->Prop}{T:Prop}(h:∃x0 x1 x2,p0 x0 x1 x2/\p1 x0 x1 x2/\p2 x0 x1 x2/\p3 x0 x1 x2)(k:∀x0 x1 x2,p0 x0 x1 x2->p1 x0 x1 x2->p2 x0 x1 x2->p3 x0 x1 x2->T):T:=by
 obtain⟨y1,y2,y3,y4,y5,y6,y7⟩:=h;exact k y1 y2 y3 y4 y5 y6 y7
def UL{A0:Sort _}{p0 p1:A0->Prop}{p2:Prop}{T:Prop}(h:(∃x0,p0 x0/\p1 x0)/\p2)(k:∀x0,p0 x0->p1 x0->p2->T):T:=by
 obtain⟨⟨y1,y2,y3⟩,y4⟩:=h;exact k y1 y2 y3 y4
def eD{A0:Sort _}{p0 p1 p2:A0->Prop}{T:Prop}(h:∃x0,p0 x0/\p1 x0/\p2 x0)(k:∀x0,p0 x0->p1 x0->p2 x0->T):T:=by
 obtain⟨y1,y2,y3,y4⟩:=h;exact k y1 y2 y3 y4
@[elab_as_elim]def uf{A0 A1:Sort _}{B:Sort _}{f:A0->A1->B}{P:B->Prop}(v:B)(h:∃x0 x1,v=f x0 x1)(k:∀x0 x1,P (f x0 x1)):P v:=by
 obtain⟨y1,y2,rfl⟩:=h;exact k y1 y2
def JV{A0:Sort _}{p0:Prop}{p1 p2:A0->Prop}{T:Prop}(h:p0/\∃x0,p1 x0/\p2 x0)(k:p0->∀x0,p1 x0->p2 x0->T):T:=by
 obtain⟨y1,y2,y3,y4⟩:=h;exact k y1 y2 y3 y4
def Tx{A0 A1:Sort _}{p0 p1 p2 p3 p4 p5 p6:A0->A1->Prop}{T:Prop}(h:∃x0 x1,p0 x0 x1/\p1 x0 x1/\p2 x0 x1/\p3 x0 x1/\p4 x0 x1/\p5 x0 x1/\p6 x0 x1)(k:∀x0 x1,p0 x0 x1->p1 x0 x1->p2 x0 x1->p3 x0 x1->p4 x0 x1->p5 x0 x1->p6 x0 x1->T):T:=by
 obtain⟨y1,y2,y3,y4,y5,y6,y7,y8,y9⟩:=h;exact k y1 y2 y3 y4 y5 y6 y7 y8 y9
@[elab_as_elim]def Tz{A0 A1 A2:Sort _}{p0 p1:A0->A1->A2->Prop}{B:Sort _}{f:A0->A1->A2->B}{P:B->Prop}(v:B)(h:∃x0 x1 x2,v=f x0 x1 x2/\p0 x0 x1 x2/\p1 x0 x1 x2)(k:∀x0 x1 x2,p0 x0 x1 x2->p1 x0 x1 x2->P (f x0 x1 x2)):P v:=by
 obtain⟨y1,y2,y3,rfl,y4,y5⟩:=h;exact k y1 y2 y3 y4 y5
def QK{T:Prop}(h:p0/\p1/\p2/\p3)(k:p0->p1->p2->p3->T):T:=by
 obtain⟨y1,y2,y3,y4⟩:=h;exact k y1 y2 y3 y4
def TA{A0 A1:Sort _}{p0 p1:A0->Prop}{p2:A0->A1->Prop}{T:Prop}(h:∃x0,p0 x0/\p1 x0/\∃x1,p2 x0 x1)(k:∀x0,p0 x0->p1 x0->∀x1,p2 x0 x1->T):T:=by
 obtain⟨y1,y2,y3,y4,y5⟩:=h;exact k y1 y2 y3 y4 y5
def UM{A0 A1 A2:Sort _}{p0 p1:A0->A1->Prop}{p2 p3 p4 p5:A0->A1->A2->Prop}{T:Prop}(h:∃x0 x1,p0 x0 x1/\p1 x0 x1/\∃x2,p2 x0 x1 x2/\p3 x0 x1 x2/\p4 x0 x1 x2/\p5 x0 x1 x2)(k:∀x0 x1,p0 x0 x1->p1 x0 x1->∀x2,p2 x0 x1 x2->p3 x0 x1 x2->p4 x0 x1 x2->p5 x0 x1 x2->T):T:=by
 obtain⟨y1,y2,y3,y4,y5,y6,y7,y8,y9⟩:=h;exact k y1 y2 y3 y4 y5 y6 y7 y8 y9
@[elab_as_elim]def wV{A0:Sort _}{p0:A0->Prop}{B:Sort _}{f:A0->B}{P:B->Prop}(v:B)(h:∃x0,v=f x0/\p0 x0)(k:∀x0,p0 x0->P (f x0)):P v:=by
 obtain⟨y1,rfl,y2⟩:=h;exact k y1 y2
def Us{A0 A1 A2 A3:Sort _}{p0 p1 p2:A0->A1->A2->A3->Prop}{T:Prop}(h:∃x0 x1 x2 x3,p0 x0 x1 x2 x3/\p1 x0 x1 x2 x3/\p2 x0 x1 x2 x3)(k:∀x0 x1 x2 x3,p0 x0 x1 x2 x3->p1 x0 x1 x2 x3->p2 x0 x1 x2 x3->T):T:=by
 obtain⟨y1,y2,y3,y4,y5,y6,y7⟩:=h;exact k y1 y2 y3 y4 y5 y6 y7
@[elab_as_elim]def RC{A0 A1 A2:Sort _}{p0 p1 p2 p3 p4:A0->A1->A2->Prop}{B:Sort _}{f:A0->A1->A2->B}{P:B->Prop}(v:B)(h:∃x0 x1 x2,v=f x0 x1 x2/\p0 x0 x1 x2/\p1 x0 x1 x2/\p2 x0 x1 x2/\p3 x0 x1 x2/\p4 x0 x1 x2)(k:∀x0 x1 x2,p0 x0 x1 x2->p1 x0 x1 x2->p2 x0 x1 x2->p3 x0 x1 x2->p4 x0 x1 x2->P (f x0 x1 x2)):P v:=by
 obtain⟨y1,y2,y3,rfl,y4,y5,y6,y7,y8⟩:=h;exact k y1 y2 y3 y4 y5 y6 y7 y8
def Ut{A0 A1 A2:Sort _}{p0 p1 p2 p3 p4 p5:A0->A1->A2->Prop}{T:Prop}(h:∃x0 x1 x2,p0 x0 x1 x2/\p1 x0 x1 x2/\p2 x0 x1 x2/\p3 x0 x1 x2/\p4 x0 x1 x2/\p5 x0 x1 x2)(k:∀x0 x1 x2,p0 x0 x1 x2->p1 x0 x1 x2->p2 x0 x1 x2->p3 x0 x1 x2->p4 x0 x1 x2->p5 x0 x1 x2->T):T:=by
 obtain⟨y1,y2,y3,y4,y5,y6,y7,y8,y9⟩:=h;exact k y1 y2 y3 y4 y5 y6 y7 y8 y9
def UN{A0 A1 A2 A3 A4:Sort _}{p0 p1 p2 p3 p4 p5:A0->A1->Prop}{p6:A0->A1->A2->A3->A4->Prop}{T:Prop}(h:∃x0 x1,p0 x0 x1/\p1 x0 x1/\p2 x0 x1/\p3 x0 x1/\p4 x0 x1/\p5 x0 x1/\∃x2 x3 x4,p6 x0 x1 x2 x3 x4)(k:∀x0 x1,p0 x0 x1->p1 x0 x1->p2 x0 x1->p3 x0 x1->p4 x0 x1->p5 x0 x1->∀x2 x3 x4,p6 x0 x1 x2 x3 x4->T):T:=by
 obtain⟨y1,y2,y3,y4,y5,y6,y7,y8,y9,y10,y11,y12⟩:=h;exact k y1 y2 y3 y4 y5 y6 y7 y8 y9 y10 y11 y12
def QM{A0 A1 A2 A3:Sort _}{p0 p1:A0->A1->A2->A3->Prop}{p2:A0->Prop}{T:Prop}(h:∃x0,(∃x1 x2 x3,p0 x0 x1 x2 x3/\p1 x0 x1 x2 x3)/\p2 x0)(k:∀x0 x1 x2 x3,p0 x0 x1 x2 x3->p1 x0 x1 x2 x3->p2 x0->T):T:=by
 obtain⟨y1,⟨y2,y3,y4,y5,y6⟩,y7⟩:=h;exact k y1 y2 y3 y4 y5 y6 y7
def Ke{A0 A1 A2 A3 A4:Sort _}{p0 p1 p2 p3 p4 p5:A0->A1->Prop}{p6 p7 p8 p9 p10 p11:A0->A1->A2->A3->A4->Prop}{T:Prop}(h:∃x0 x1,p0 x0 x1/\p1 x0 x1/\p2 x0 x1/\p3 x0 x1/\p4 x0 x1/\p5 x0 x1/\∃x2 x3 x4,p6 x0 x1 x2 x3 x4/\p7 x0 x1 x2 x3 x4/\p8 x0 x1 x2 x3 x4/\p9 x0 x1 x2 x3 x4/\p10 x0 x1 x2 x3 x4/\p11 x0 x1 x2 x3 x4)(k:∀x0 x1,p0 x0 x1->p1 x0 x1->p2 x0 x1->p3 x0 x1->p4 x0 x1->p5 x0 x1->∀x2 x3 x4,p6 x0 x1 x2 x3 x4->p7 x0 x1 x2 x3 x4->p8 x0 x1 x2 x3 x4->p9 x0 x1 x2 x3 x4->p10 x0 x1 x2 x3 x4->p11 x0 x1 x2 x3 x4->T):T:=by
 obtain⟨y1,y2,y3,y4,y5,y6,y7,y8,y9,y10,y11,y12,y13,y14,y15,y16,y17⟩:=h;exact k y1 y2 y3 y4 y5 y6 y7 y8 y9 y10 y11 y12 y13 y14 y15 y16 y17
def HT{A0 A1:Sort _}{p0:Prop}{p1 p2 p3:A0->A1->Prop}{T:Prop}(h:p0/\∃x0 x1,p1 x0 x1/\p2 x0 x1/\p3 x0 x1)(k:p0->∀x0 x1,p1 x0 x1->p2 x0 x1->p3 x0 x1->T):T:=by
 obtain⟨y1,y2,y3,y4,y5,y6⟩:=h;exact k y1 y2 y3 y4 y5 y6
def TB{A0 A1 A2:Sort _}{p0 p1 p2:A0->A1->A2->Prop}{T:Prop}(h:∃x0 x1 x2,p0 x0 x1 x2/\p1 x0 x1 x2/\p2 x0 x1 x2)(k:∀x0 x1 x2,p0 x0 x1 x2->p1 x0 x1 x2->p2 x0 x1 x2->T):T:=by
 obtain⟨y1,y2,y3,y4,y5,y6⟩:=h;exact k y1 y2 y3 y4 y5 y6
def UO{A0:Sort _}{p0 p1 p2 p3:A0->Prop}{T:Prop}(h:∃x0,p0 x0/\p1 x0/\p2 x0/\p3 x0)(k:∀x0,p0 x0->p1 x0->p2 x0->p3 x0->T):T:=by
 obtain⟨y1,y2,y3,y4,y5⟩:=h;exact k y1 y2 y3 y4 y5
@[elab_as_elim]def UP{A0 A1 A2:Sort _}{p0 p1 p2 p3 p4 p5:A0->A1->A2->Prop}{B:Sort _}{f:A0->A1->A2->B}{P:B->Prop}(v:B)(h:∃x0 x1 x2,v=f x0 x1 x2/\p0 x0 x1 x2/\p1 x0 x1 x2/\p2 x0 x1 x2/\p3 x0 x1 x2/\p4 x0 x1 x2/\p5 x0 x1 x2)(k:∀x0 x1 x2,p0 x0 x1 x2->p1 x0 x1 x2->p2 x0 x1 x2->p3 x0 x1 x2->p4 x0 x1 x2->p5 x0 x1 x2->P (f x0 x1 x2)):P v:=by
 obtain⟨y1,y2,y3,rfl,y4,y5,y6,y7,y8,y9⟩:=h;exact k y1 y2 y3 y4 y5 y6 y7 y8 y9
def UQ{A0 A1 A2 A3 A4 A5 A6 A7:Sort _}{p0 p1 p2 p3 p4 p5 p6 p7 p8:A0->A1->A2->A3->A4->A5->A6->A7->Prop}{T:Prop}(h:∃x0 x1 x2 x3 x4 x5 x6 x7,p0 x0 x1 x2 x3 x4 x5 x6 x7/\p1 x0 x1 x2 x3 x4 x5 x6 x7/\p2 x0 x1 x2 x3 x4 x5 x6 x7/\p3 x0 x1 x2 x3 x4 x5 x6 x7/\p4 x0 x1 x2 x3 x4 x5 x6 x7/\p5 x0 x1 x2 x3 x4 x5 x6 x7/\p6 x0 x1 x2 x3 x4 x5 x6 x7/\p7 x0 x1 x2 x3 x4 x5 x6 x7/\p8 x0 x1 x2 x3 x4 x5 x6 x7)(k:∀x0 x1 x2 x3 x4 x5 x6 x7,p0 x0 x1 x2 x3 x4 x5 x6 x7->p1 x0 x1 x2 x3 x4 x5 x6 x7->p2 x0 x1 x2 x3 x4 x5 x6 x7->p3 x0 x1 x2 x3 x4 x5 x6 x7->p4 x0 x1 x2 x3 x4 x5 x6 x7->p5 x0 x1 x2 x3 x4 x5 x6 x7->p6 x0 x1 x2 x3 x4 x5 x6 x7->p7 x0 x1 x2 x3 x4 x5 x6 x7->p8 x0 x1 x2 x3 x4 x5 x6 x7->T):T:=by
 obtain⟨y1,y2,y3,y4,y5,y6,y7,y8,y9,y10,y11,y12,y13,y14,y15,y16,y17⟩:=h;exact k y1 y2 y3 y4 y5 y6 y7 y8 y9 y10 y11 y12 y13 y14 y15 y16 y17
def UR{A0 A1:Sort _}{p0 p1 p2 p3 p4 p5 p6 p7:A0->A1->Prop}{T:Prop}(h:∃x0 x1,p0 x0 x1/\p1 x0 x1/\p2 x0 x1/\p3 x0 x1/\p4 x0 x1/\p5 x0 x1/\p6 x0 x1/\p7 x0 x1)(k:∀x0 x1,p0 x0 x1->p1 x0 x1->p2 x0 x1->p3 x0 x1->p4 x0 x1->p5 x0 x1->p6 x0 x1->p7 x0 x1->T):T:=by
 obtain⟨y1,y2,y3,y4,y5,y6,y7,y8,y9,y10⟩:=h;exact k y1 y2 y3 y4 y5 y6 y7 y8 y9 y10
def TC{A0 A1 A2 A3:Sort _}{p0 p1 p2 p3:A0->A1->A2->A3->Prop}{T:Prop}(h:∃x0 x1 x2 x3,p0 x0 x1 x2 x3/\p1 x0 x1 x2 x3/\p2 x0 x1 x2 x3/\p3 x0 x1 x2 x3)(k:∀x0 x1 x2 x3,p0 x0 x1 x2 x3->p1 x0 x1 x2 x3->p2 x0 x1 x2 x3->p3 x0 x1 x2 x3->T):T:=by
 obtain⟨y1,y2,y3,y4,y5,y6,y7,y8⟩:=h;exact k y1 y2 y3 y4 y5 y6 y7 y8
def US{A0 A1 A2 A3 A4 A5 A6 A7 A8:Sort _}{p0 p1:A0->A1->A2->A3->A4->A5->A6->A7->A8->Prop}{T:Prop}(h:∃x0 x1 x2 x3 x4 x5 x6 x7 x8,p0 x0 x1 x2 x3 x4 x5 x6 x7 x8/\p1 x0 x1 x2 x3 x4 x5 x6 x7 x8)(k:∀x0 x1 x2 x3 x4 x5 x6 x7 x8,p0 x0 x1 x2 x3 x4 x5 x6 x7 x8->p1 x0 x1 x2 x3 x4 x5 x6 x7 x8->T):T:=by
 obtain⟨y1,y2,y3,y4,y5,y6,y7,y8,y9,y10,y11⟩:=h;exact k y1 y2 y3 y4 y5 y6 y7 y8 y9 y10 y11
def Uu{A0 A1:Sort _}{p0 p1 p2 p3 p4 p5:A0->A1->Prop}{T:Prop}(h:∃x0 x1,p0 x0 x1/\p1 x0 x1/\p2 x0 x1/\p3 x0 x1/\p4 x0 x1/\p5 x0 x1)(k:∀x0 x1,p0 x0 x1->p1 x0 x1->p2 x0 x1->p3 x0 x1->p4 x0 x1->p5 x0 x1->T):T:=by
 obtain⟨y1,y2,y3,y4,y5,y6,y7,y8⟩:=h;exact k y1 y2 y3 y4 y5 y6 y7 y8
@[elab_as_elim]def TF{p0:Prop}{B:Sort _}{f:B}{P:B->Prop}(v:B)(h:v=f/\p0)(k:p0->P f):P v:=by
 obtain⟨rfl,y1⟩:=h;exact k y1
def UT{A0 A1:Sort _}{p0 p1 p2:Prop}{p3 p4 p5 p6 p7:A0->A1->Prop}{T:Prop}(h:p0/\p1/\p2/\∃x0 x1,p3 x0 x1/\p4 x0 x1/\p5 x0 x1/\p6 x0 x1/\p7 x0 x1)(k:p0->p1->p2->∀x0 x1,p3 x0 x1->p4 x0 x1->p5 x0 x1->p6 x0 x1->p7 x0 x1->T):T:=by
 obtain⟨y1,y2,y3,y4,y5,y6,y7,y8,y9,y10⟩:=h;exact k y1 y2 y3 y4 y5 y6 y7 y8 y9 y10
def RE{A0 A1 A2 A3:Sort _}{p0 p1:A0->A1->Prop}{p2 p4:A0->A1->A2->Prop}{p3:A0->A1->A2->A3->Prop}{T:Prop}(h:∃x0 x1,p0 x0 x1/\p1 x0 x1/\∃x2,(p2 x0 x1 x2/\∃x3,p3 x0 x1 x2 x3)/\p4 x0 x1 x2)(k:∀x0 x1,p0 x0 x1->p1 x0 x1->∀x2,p2 x0 x1 x2->∀x3,p3 x0 x1 x2 x3->p4 x0 x1 x2->T):T:=by
 obtain⟨y1,y2,y3,y4,y5,⟨y6,y7,y8⟩,y9⟩:=h;exact k y1 y2 y3 y4 y5 y6 y7 y8 y9
def RG{A0 A1:Sort _}{p0 p2:A0->Prop}{p1:A0->A1->Prop}{T:Prop}(h:∃x0,(p0 x0/\∃x1,p1 x0 x1)/\p2 x0)(k:∀x0,p0 x0->∀x1,p1 x0 x1->p2 x0->T):T:=by
 obtain⟨y1,⟨y2,y3,y4⟩,y5⟩:=h;exact k y1 y2 y3 y4 y5
def UU{A0 A1 A2 A3 A4:Sort _}{p0 p1 p2 p3 p4 p5:A0->A1->Prop}{p6 p7:A0->A1->A2->A3->A4->Prop}{T:Prop}(h:∃x0 x1,p0 x0 x1/\p1 x0 x1/\p2 x0 x1/\p3 x0 x1/\p4 x0 x1/\p5 x0 x1/\∃x2 x3 x4,p6 x0 x1 x2 x3 x4/\p7 x0 x1 x2 x3 x4)(k:∀x0 x1,p0 x0 x1->p1 x0 x1->p2 x0 x1->p3 x0 x1->p4 x0 x1->p5 x0 x1->∀x2 x3 x4,p6 x0 x1 x2 x3 x4->p7 x0 x1 x2 x3 x4->T):T:=by
 obtain⟨y1,y2,y3,y4,y5,y6,y7,y8,y9,y10,y11,y12,y13⟩:=h;exact k y1 y2 y3 y4 y5 y6 y7 y8 y9 y10 y11 y12 y13
@[elab_as_elim]def UV{A0 A1:Sort _}{p0 p1:A0->A1->Prop}{B:Sort _}{f:A0->A1->B}{P:B->Prop}(v:B)(h:∃x0 x1,v=f x0 x1/\p0 x0 x1/\p1 x0 x1)(k:∀x0 x1,p0 x0 x1->p1 x0 x1->P (f x0 x1)):P v:=by
 obtain⟨y1,y2,rfl,y3,y4⟩:=h;exact k y1 y2 y3 y4
def UW{A0 A1:Sort _}{p0 p1:A0->Prop}{p2:A0->A1->Prop}{p3:Prop}{T:Prop}(h:(∃x0,p0 x0/\p1 x0/\∃x1,p2 x0 x1)/\p3)(k:∀x0,p0 x0->p1 x0->∀x1,p2 x0 x1->p3->T):T:=by
 obtain⟨⟨y1,y2,y3,y4,y5⟩,y6⟩:=h;exact k y1 y2 y3 y4 y5 y6
def UX{A0 A1:Sort _}{p0:A0->Prop}{p1:A0->A1->Prop}{T:Prop}(h:∃x0,p0 x0/\∃x1,p1 x0 x1)(k:∀x0,p0 x0->∀x1,p1 x0 x1->T):T:=by
 obtain⟨y1,y2,y3,y4⟩:=h;exact k y1 y2 y3 y4
def UY{T:Prop}(h:((p0/\p1)/\p2)/\p3)(k:p0->p1->p2->p3->T):T:=by
 obtain⟨⟨⟨y1,y2⟩,y3⟩,y4⟩:=h;exact k y1 y2 y3 y4
@[elab_as_elim]def UZ{p0 p1 p2:Prop}{B:Sort _}{f:B}{P:B->Prop}(v:B)(h:((p0/\p1)/\p2)/\v=f)(k:p0->p1->p2->P f):P v:=by
 obtain⟨⟨⟨y1,y2⟩,y3⟩,rfl⟩:=h;exact k y1 y2 y3
@[elab_as_elim]def z9{A0 A1 A2 A3:Sort _}{B:Sort _}{f:A0->A1->A2->A3->B}{P:B->Prop}(v:B)(h:∃x0 x1 x2 x3,v=f x0 x1 x2 x3)(k:∀x0 x1 x2 x3,P (f x0 x1 x2 x3)):P v:=by
 obtain⟨y1,y2,y3,y4,rfl⟩:=h;exact k y1 y2 y3 y4
def U0{T:Prop}(h:(((p0/\p1)/\p2)/\p3)/\p4)(k:p0->p1->p2->p3->p4->T):T:=by
 obtain⟨⟨⟨⟨y1,y2⟩,y3⟩,y4⟩,y5⟩:=h;exact k y1 y2 y3 y4 y5
@[elab_as_elim]def U1{A0 A1 A2 A3 A4:Sort _}{p0:A0->A1->A2->A3->A4->Prop}{B:Sort _}{f:A0->A1->A2->A3->A4->B}{P:B->Prop}(v:B)(h:∃x0 x1 x2 x3 x4,v=f x0 x1 x2 x3 x4/\p0 x0 x1 x2 x3 x4)(k:∀x0 x1 x2 x3 x4,p0 x0 x1 x2 x3 x4->P (f x0 x1 x2 x3 x4)):P v:=by
 obtain⟨y1,y2,y3,y4,y5,rfl,y6⟩:=h;exact k y1 y2 y3 y4 y5 y6
@[elab_as_elim]def U2{A0:Sort _}{p0 p1:A0->Prop}{B:Sort _}{f:B}{P:B->Prop}(v:B)(h:v=f/\∃x0,p0 x0/\p1 x0)(k:∀x0,p0 x0->p1 x0->P f):P v:=by
 obtain⟨rfl,y1,y2,y3⟩:=h;exact k y1 y2 y3
@[elab_as_elim]def Kf{A0 A1:Sort _}{p0:A0->A1->Prop}{B:Sort _}{f:A0->A1->B}{P:B->Prop}(v:B)(h:∃x0 x1,v=f x0 x1/\p0 x0 x1)(k:∀x0 x1,p0 x0 x1->P (f x0 x1)):P v:=by
 obtain⟨y1,y2,rfl,y3⟩:=h;exact k y1 y2 y3
def Uv{T:Prop}(h:p0/\p1/\p2/\p3/\p4)(k:p0->p1->p2->p3->p4->T):T:=by
 obtain⟨y1,y2,y3,y4,y5⟩:=h;exact k y1 y2 y3 y4 y5
def U3{A0 A1:Sort _}{p0 p1:A0->Prop}{p2 p3 p4 p5 p6 p7:A0->A1->Prop}{T:Prop}(h:∃x0,p0 x0/\p1 x0/\∃x1,p2 x0 x1/\p3 x0 x1/\p4 x0 x1/\p5 x0 x1/\p6 x0 x1/\p7 x0 x1)(k:∀x0,p0 x0->p1 x0->∀x1,p2 x0 x1->p3 x0 x1->p4 x0 x1->p5 x0 x1->p6 x0 x1->p7 x0 x1->T):T:=by
 obtain⟨y1,y2,y3,y4,y5,y6,y7,y8,y9,y10⟩:=h;exact k y1 y2 y3 y4 y5 y6 y7 y8 y9 y10
def U4{A0 A1 A2 A3 A4 A5 A6:Sort _}{p0 p1 p2 p3 p4:A0->A1->A2->A3->A4->A5->A6->Prop}{T:Prop}(h:∃x0 x1 x2 x3 x4 x5 x6,p0 x0 x1 x2 x3 x4 x5 x6/\p1 x0 x1 x2 x3 x4 x5 x6/\p2 x0 x1 x2 x3 x4 x5 x6/\p3 x0 x1 x2 x3 x4 x5 x6/\p4 x0 x1 x2 x3 x4 x5 x6)(k:∀x0 x1 x2 x3 x4 x5 x6,p0 x0 x1 x2 x3 x4 x5 x6->p1 x0 x1 x2 x3 x4 x5 x6->p2 x0 x1 x2 x3 x4 x5 x6->p3 x0 x1 x2 x3 x4 x5 x6->p4 x0 x1 x2 x3 x4 x5 x6->T):T:=by
 obtain⟨y1,y2,y3,y4,y5,y6,y7,y8,y9,y10,y11,y12⟩:=h;exact k y1 y2 y3 y4 y5 y6 y7 y8 y9 y10 y11 y12
@[elab_as_elim]def Kg{A0 A1 A2:Sort _}{B:Sort _}{f:A0->A1->A2->B}{P:B->Prop}(v:B)(h:∃x0 x1 x2,v=f x0 x1 x2)(k:∀x0 x1 x2,P (f x0 x1 x2)):P v:=by
 obtain⟨y1,y2,y3,rfl⟩:=h;exact k y1 y2 y3
def Uw{A0 A1 A2 A3 A4 A5 A6:Sort _}{p0 p1:A0->A1->Prop}{p2 p3 p4 p5:A0->A1->A2->A3->A4->A5->A6->Prop}{T:Prop}(h:∃x0 x1,p0 x0 x1/\p1 x0 x1/\∃x2 x3 x4 x5 x6,p2 x0 x1 x2 x3 x4 x5 x6/\p3 x0 x1 x2 x3 x4 x5 x6/\p4 x0 x1 x2 x3 x4 x5 x6/\p5 x0 x1 x2 x3 x4 x5 x6)(k:∀x0 x1,p0 x0 x1->p1 x0 x1->∀x2 x3 x4 x5 x6,p2 x0 x1 x2 x3 x4 x5 x6->p3 x0 x1 x2 x3 x4 x5 x6->p4 x0 x1 x2 x3 x4 x5 x6->p5 x0 x1 x2 x3 x4 x5 x6->T):T:=by
 obtain⟨y1,y2,y3,y4,y5,y6,y7,y8,y9,y10,y11,y12,y13⟩:=h;exact k y1 y2 y3 y4 y5 y6 y7 y8 y9 y10 y11 y12 y13
@[elab_as_elim]def Ux{A0 A1 A2 A3 A4:Sort _}{B:Sort _}{f:A0->A1->A2->A3->A4->B}{P:B->Prop}(v:B)(h:∃x0 x1 x2 x3 x4,v=f x0 x1 x2 x3 x4)(k:∀x0 x1 x2 x3 x4,P (f x0 x1 x2 x3 x4)):P v:=by
 obtain⟨y1,y2,y3,y4,y5,rfl⟩:=h;exact k y1 y2 y3 y4 y5
def U5{A0 A1 A2 A3 A4 A5 A6 A7:Sort _}{p0:A0->A1->A2->A3->A4->A5->A6->A7->Prop}{T:Prop}(h:∃x0 x1 x2 x3 x4 x5 x6 x7,p0 x0 x1 x2 x3 x4 x5 x6 x7)(k:∀x0 x1 x2 x3 x4 x5 x6 x7,p0 x0 x1 x2 x3 x4 x5 x6 x7->T):T:=by
 obtain⟨y1,y2,y3,y4,y5,y6,y7,y8,y9⟩:=h;exact k y1 y2 y3 y4 y5 y6 y7 y8 y9
def U6{A0 A1 A2:Sort _}{p0:A0->A1->A2->Prop}{T:Prop}(h:∃x0 x1 x2,p0 x0 x1 x2)(k:∀x0 x1 x2,p0 x0 x1 x2->T):T:=by
 obtain⟨y1,y2,y3,y4⟩:=h;exact k y1 y2 y3 y4
def U7{A0 A1 A2 A3 A4 A5 A6 A7 A8:Sort _}{p0 p1 p2 p3 p4:A0->A1->A2->A3->A4->A5->A6->A7->A8->Prop}{T:Prop}(h:∃x0 x1 x2 x3 x4 x5 x6 x7 x8,p0 x0 x1 x2 x3 x4 x5 x6 x7 x8/\p1 x0 x1 x2 x3 x4 x5 x6 x7 x8/\p2 x0 x1 x2 x3 x4 x5 x6 x7 x8/\p3 x0 x1 x2 x3 x4 x5 x6 x7 x8/\p4 x0 x1 x2 x3 x4 x5 x6 x7 x8)(k:∀x0 x1 x2 x3 x4 x5 x6 x7 x8,p0 x0 x1 x2 x3 x4 x5 x6 x7 x8->p1 x0 x1 x2 x3 x4 x5 x6 x7 x8->p2 x0 x1 x2 x3 x4 x5 x6 x7 x8->p3 x0 x1 x2 x3 x4 x5 x6 x7 x8->p4 x0 x1 x2 x3 x4 x5 x6 x7 x8->T):T:=by
 obtain⟨y1,y2,y3,y4,y5,y6,y7,y8,y9,y10,y11,y12,y13,y14⟩:=h;exact k y1 y2 y3 y4 y5 y6 y7 y8 y9 y10 y11 y12 y13 y14
def oZ{p:Prop}(h:(p->False)->False):p:=Yv h
end
end Mine
end
section
namespace Mine
open Ln.T Ln
section
def Ub{x y}:=aa [x,y] (I (B a (s b)) (I (X (B a b)) (E a b)))
def Ie{x y}:=aa [x,y] (L a (P a b))
def Uc{x}:=aa [] (I (G (Q (Z 0) (Z 1)) (W 0)) (X (H (W 0) (Z 0)))) [x]
def Ud{x:Int}:(0:Int)<x->(0:Int)<=x:=aa [] (I (G (Q (Z 0) (Z 1)) (W 0)) (G (Z 0) (W 0))) [x]
def UA{x y}:=aa [x,y] (I (L (P a b) (N 4096)) (L (P a b) (N 16777216)))
def UB{x y}:=aa [x,y] (I (L a (s b)) (L (s a) (s (s b))))
def UC{x y}:=aa [x,y] (I (B a (N 100)) (I (L b (s a)) (L b (N 1000))))
def UD{x}:=aa [x] (I (L a (N 4096)) (L a (N 1099511627776)))
def Sw{x}:=aa [] (I (G (Z 0) (W 0)) (X (G (Q (W 0) (Z 1)) (Z 0)))) [x]
def RT{x}:=aa [x] (I (B a (N 29)) (B a (N 30)))
def ng{x y}:=aa [x,y] (I (X (B a b)) (L b a))
def RU{x y}:=aa [x,y] (I (B (S a b) (s (s (N 0)))) (O (E (S a b) (N 0)) (E (S a b) (N 1))))
def KW{x y z}:=aa [x,y,z] (I (E a b) (I (X (B c b)) (L a c)))
def RV{x y z}:=aa [x,y,z] (I (E (S a b) (N 0)) (I (E c b) (E (S a c) (N 0))))
def RW{x y}:=aa [x,y] (I (E a b) (L a (s b)))
def RX{x y}:=aa [x,y] (I (E a b) (E (S (s b) a) (N 1)))
def RY{x y z}:=aa [x,y,z] (I (E (S a b) (N 1)) (I (E c b) (E (S a c) (N 1))))
def RZ{x y z}:=aa [x,y,z] (I (B (P a b) c) (I (L (N 2) b) (B (P (s a) (S b (N 2))) c)))
def R3{x y z}:=aa [x,y,z] (I (B (P a (M 10 b)) c) (I (L (N 2) b) (B (P (s a) (M 10 (S b (N 2)))) c)))
def LB{x y}:=aa [x,y] (I (E a b) (L a b))
def LF{x y}:=aa [x,y] (I (E a b) (E (S b a) (N 0)))
def LU:=aa [] (L (N 0) (N 16777216))
def R4{x y}:=aa [x,y] (B (N 2) (P (s (s (s (s (s (s a)))))) b))
def R5{x}:=aa [x] (L (P (N 0) a) a)
def R6{x y}:=aa [x,y] (I (L a b) (X (E a (s b))))
def Ig{x y}:=aa [x,y] (I (E a b) (L b a))
def Mn{x y}:=aa [x,y] (I (E a b) (E b a))
def R7{x}:=aa [x] (I (B a (N 100)) (L a (N 4096)))
def R8{x y}:=aa [x,y] (B (N 3) (P (s (s (s (s (s a))))) b))
def MD{x}:=aa [x] (I (L (N 6) a) (B (N 1) a))
def Au{x y z}:=aa [x,y,z] (I (B (P a b) c) (I (L (N 1) b) (B (P (s a) (S b (N 1))) c)))
def Av{x y z}:=aa [x,y,z] (I (B (P a (M 10 b)) c) (I (L (N 1) b) (B (P (P a (N 3)) (M 10 (S b (N 1)))) c)))
def DW{x y}:=aa [x,y] (E (P (s a) b) (P a (s b)))
def Nq{x y}:=aa [x,y] (E (P a (s b)) (P (s a) b))
def Ih{x y}:=aa [x,y] (I (E (P (s a) b) a) F)
def Ii{x y z}:=aa [x,y,z] (I (E a b) (L a (P b c)))
def Ij{x y z}:=aa [x,y,z] (I (E a b) (E (S (P b c) a) c))
def Ik{x y}:=aa [x,y] (E (S (P a b) a) b)
def R9:=aa [] (L (s (N 0)) (s (N 16777216)))
def R_{x}:=aa [x] (I (L a (N 50)) (L (s a) (s (N 16777216))))
def Sa{x y z}:=aa [x,y,z] (I (B (P a b) c) (I (L (N 4) b) (B (s a) c)))
def lg{x}:=aa [x] (L a (s a))
def Sb{x y}:=aa [y] (H (D (D (W 0) (C a)) (Z 1)) (D (W 0) (Q (C a) (Z 1)))) [x]
def DX{x y}:=aa [x,y] (I (L a b) (I (L b a) (E a b)))
def DY{x y}:=aa [x,y] (I (B a b) (B (S b (s a)) (S b a)))
def DZ{x y}:=aa [x,y] (I (L a b) (L a (s b)))
def OY{x y z}:=aa [x,y,z] (I (B a b) (I (L b (N 100)) (I (L c a) (L c (N 100)))))
def Il{x y}:=aa [x,y] (I (L a b) (L (s a) (s b)))
def Sd{x}:=aa [] (I (G (Z 0) (W 0)) (I (G (W 0) (Z 100)) (A (G (Z (-9223372036854775808)) (W 0)) (G (Q (W 0) (Z 1)) (Z 9223372036854775808))))) [x]
def Se:=aa [] (G (Z 0) (Z 0))
def Sf:=aa [] (G (Z 0) (Z 100))
def Sg:=aa [] (G (Z 0) (Z 1))
def Sh:=aa [] (G (Z 1) (Z 100))
def Si{x}:=aa [] (H (Q (W 0) (D (Z 1) (Z 1))) (W 0)) [x]
def PI{x y}:=aa [x,y] (I (E (s a) (s b)) (E b a))
def Sj{x}:=aa [x] (X (G (Q (C a) (Z 1)) (Z 0)))
def Sk{x y}:=aa [x] (I (G (Q (C a) (Z 1)) (W 0)) (X (G (W 0) (C a)))) [y]
def Sl{x}:=aa [] (I (G (Z 0) (W 0)) (I (G (Q (W 0) (Z 1)) (Z 256)) (A (G (Z 0) (W 0)) (G (Q (W 0) (Z 1)) (Z 256))))) [x]
def Sm{x y z}:=aa [x,y,z] (I (B (P a (M 10 b)) c) (B a c))
def Sn{x y}:=aa [x,y] (I (B a b) (E (S b a) (s (S b (s a)))))
def So{x y}:=aa [x,y] (I (B a b) (B (P a (N 0)) b))
def Im{x y z}:=aa [x,y,z] (I (B a b) (I (L b c) (B a c)))
def Sp{x}:=aa [] (I (G (Z 0) (W 0)) (I (G (Q (W 0) (Z 1)) (Z 256)) (A (X (G (Q (W 0) (Z 1)) (Z 0))) (X (G (Z 256) (W 0)))))) [x]
def dh{x}:=aa [x] (I (L a (N 20)) (L a (N 4096)))
def Sq{x y}:=aa [x,y] (I (G (Q (C a) (Z 1)) (C b)) (B a b))
def Sr{x y}:=aa [x,y] (I (X (G (Q (C a) (Z 1)) (C b))) (L b a))
def Ss{x}:=aa [x] (I (G (Z 97) (C a)) (L (N 97) a))
def Su{x:Nat}:((x:Int)<=(122:Int)↔x<=122):=by omega
def Sv{x}:=aa [x] (I (X (G (Z 97) (C a))) (X (L (N 97) a)))
def Sx{x}:=aa [x] (I (G (Z 65) (C a)) (L (N 65) a))
def Sy{x:Nat}:((x:Int)<=(90:Int)↔x<=90):=by omega
def Sz{x}:=aa [x] (I (X (G (Z 65) (C a))) (X (L (N 65) a)))
def SB{x}:=aa [x] (I (G (Z 48) (C a)) (L (N 48) a))
def SC{x:Nat}:((x:Int)<=(57:Int)↔x<=57):=by omega
def SD{x}:=aa [x] (I (X (G (Z 48) (C a))) (X (L (N 48) a)))
def aZ{x y}:=aa [x,y] (I (L a (s b)) (L (S a (N 1)) b))
def Io{x}:=aa [x] (I (L (N 2) a) (L (N 1) (S a (N 1))))
def PJ{x}:=aa [x] (I (L (N 3) a) (L (N 1) (S a (N 1))))
def SE{x}:=aa [x] (I (L (N 3) a) (L (N 2) (S a (N 1))))
def SG{x}:=aa [x] (I (X (E a (N 97))) (X (H (C a) (Z 97))))
def PL{x y:Nat}:((x:Int)=(y:Int)↔x=y):=by omega
def PM{x y z}:=aa [x,y,z] (I (E a (s b)) (I (E c b) (X (E c a))))
def PO{x y}:=aa [x,y] (I (E a (s b)) (L b a))
def D0{x y z}:=aa [x,y,z] (I (B a b) (I (E c b) (X (E c a))))
def PP{x y z}:=aa [x,y,z] (I (B a b) (I (E c (s b)) (X (E c a))))
def uz{x y}:=aa [x,y] (I (B a b) (B a b))
def qZ{x y}:=aa [x,y] (I (L a b) (L a b))
def PQ{x y}:=aa [x,y] (I (H (C a) (C b)) (E a b))
def PR{x y}:=aa [x,y] (I (X (H (C a) (C b))) (X (E a b)))
def Ku{x y}:=aa [x,y] (H (Q (C a) (C b)) (C (P a b)))
def pG{x}:=aa [x] (I (L (N 5) a) (L (N 4) (S a (N 1))))
def Gb{x y z}:=aa [x,y,z] (I (L (P a (N 2)) (P b c)) (I (B c a) (E b (s (S b (N 1))))))
def Af{x y}:=aa [x,y] (I (B a b) (X (L b a)))
def Gc{x}:=aa [x] (I (H (C a) (Z 37)) (E a (N 37)))
def Kv{x y}:=aa [x,y] (I (G (Q (Q (C a) (Z 1)) (Z 1)) (C b)) (B (s a) b))
def Kw{x}:=aa [x] (I (E a (N 37)) (E a (N 37)))
def Ky{x}:=aa [x] (B a (P a (N 2)))
def Ag{x y}:=aa [x,y] (I (B (s a) b) (L (P a (N 2)) b))
def Kz{x y z}:=aa [x,y,z] (I (L (P a (N 2)) (P (s b) c)) (L (P a (N 2)) (P b (P c (N 2)))))
def KA{x y}:=aa [x,y] (I (G (C a) (Q (C b) (Z 1))) (X (B (s b) a)))
def xw{x}:=aa [x] (B a (s a))
def bI{x y}:=aa [x,y] (I (B a b) (L (s a) b))
def di{x y z}:=aa [x,y,z] (I (L (P a (N 2)) (P (s b) c)) (L (P a (N 2)) (P b (s c))))
def Gd{x}:=aa [x] (I (X (H (C a) (Z 37))) (X (E a (N 37))))
def Ge{x y}:=aa [x,y] (L (P a (N 2)) (P (P a (N 2)) b))
def Gf{x y z}:=aa [x,y,z] (I (B a b) (I (L b c) (B (S (P c (N 3)) b) (S (P c (N 3)) a))))
def Gg{x}:=aa [x] (I (L (N 5) a) (L (N 1) (S a (N 1))))
def KC{x}:=aa [x] (I (X (H (C a) (Z 93))) (X (E a (N 93))))
def KD{x}:=aa [x] (I (H (C a) (Z 93)) (E a (N 93)))
def KG{x y}:=aa [x,y] (I (G (C a) (Q (C b) (Z 1))) (L a (s b)))
def KH{x y}:=aa [x,y] (I (G (Q (Q (C a) (Z 1)) (Z 1)) (C b)) (X (L b (s a))))
def KI{x}:=aa [x] (I (X (H (C a) (Z 91))) (X (E a (N 91))))
def KJ{x}:=aa [x] (I (H (C a) (Z 91)) (X (X (E a (N 91)))))
def KM{x}:=aa [x] (I (H (C a) (Z 94)) (E a (N 94)))
def KN{x}:=aa [x] (I (X (H (C a) (Z 94))) (X (E a (N 94))))
def KO{x y}:=aa [x,y] (I (L (N 1) a) (L (P b (N 2)) (P (s b) a)))
def uk{x y}:=aa [x,y] (I (L a b) (X (B b a)))
def KQ{x y z w}:=aa [x,y,z,w] (I (L (P a (N 2)) (P b c)) (I (B c d) (I (L d a) (E b (s (S b (N 1)))))))
def KU{x y z w}:=aa [x,y,z,w] (I (B a b) (I (L b c) (B (S (P c (N 3)) (P a (s d))) (S (P c (N 3)) a))))
def KY{x y z w}:=aa [x,y,z,w] (I (L (P a (N 2)) (P (s b) c)) (L (P a (N 2)) (P b (P c (s d)))))
def Ah{x}:=aa [x] (I (L (N 4) a) (L (N 1) (S a (N 1))))
def KZ{x}:=aa [x] (I (L (N 4) a) (L (N 3) (S a (N 1))))
def K0{x y z}:=aa [x,y,z] (I (B (P a (N 2)) b) (I (L b c) (B (P a (N 2)) c)))
def K2{x y z}:=aa [x,y,z] (I (A (E a (N 45)) (B (P b (N 2)) c)) (X (L c (P b (N 2)))))
def xy{x}:=aa [x] (L (N 1) (P a (N 2)))
def Gh{x}:=aa [x] (L (N 1) (s a))
def kF{x}:=aa [x] (I (L a (N 100)) (L a (N 4096)))
def K3{x}:=aa [x] (I (L (N 5) a) (L (N 3) (S a (N 1))))
def Gi{x}:=aa [x] (I (L (N 1) a) (H (D (C a) (Z 1)) (C (S a (N 1)))))
def K4{x y}:=aa [x,y] (I (L a b) (L (S a (N 1)) b))
def Gj{x y}:=aa [x,y] (L (s a) (P (s a) b))
def K5{x y z}:=aa [x,y,z] (I (L (s a) (P b c)) (I (B c a) (E b (s (S b (N 1))))))
def Gk{x y}:=aa [x,y] (I (B a b) (B (S (P b (N 3)) (s a)) (S (P b (N 3)) a)))
def kH{x y z}:=aa [x,y,z] (I (L (s a) (P (s b) c)) (L (s a) (P b (s c))))
def K6{x}:=aa [x] (I (H (D (C a) (Z 1)) (C (S a (N 1)))) (I (E (S a (N 1)) (N 0)) (E a (N 1))))
def K7{x}:=aa [x] (I (X (E (S a (N 1)) (N 0))) (X (E a (N 1))))
def K8{x}:=aa [x] (I (X (E (S a (N 1)) (N 0))) (L (N 1) (S a (N 1))))
def K9{x y}:=aa [x,y] (I (B (s a) b) (X (L b (s a))))
def K_{x y}:=aa [x,y] (I (B (s a) b) (B a b))
def K'{x y}:=aa [x,y] (I (B (s a) b) (B (s a) b))
def La{x y z w}:=aa [x,y,z,w] (I (B a b) (I (E c d) (X (O (L b a) (X (E c d))))))
def Lb{x}:=aa [x] (I (L (N 5) a) (L (N 2) a))
def Gl{x}:=aa [x] (I (L (N 6) a) (L (N 5) (S a (N 1))))
def Lc{x y}:=aa [x,y] (I (L a (P b (N 3))) (L a (s (P b (N 2)))))
def Ld{x y}:=aa [x,y] (I (X (L a (P b (N 3)))) (X (L a (s (P b (N 2))))))
def xA{x}:=aa [x] (I (L a (N 40)) (L a (N 4096)))
def Le{x y}:=aa [x,y] (I (L a (N 40)) (I (L b a) (L b (N 40))))
def Gn{x}:=aa [x] (I (G (Z 1) (C a)) (E a (s (S a (N 1)))))
def xB{x}:=aa [x] (H (D (C (s a)) (Z 1)) (C a))
def Gp{x}:=aa [x] (I (G (Q (C a) (Z 1)) (Z 1)) (E a (N 0)))
def Ai{x y z}:=aa [x,y,z] (I (B a b) (I (E a c) (I (L b c) F)))
def Gq{x y z}:=aa [x,y,z] (I (L a b) (I (L b c) (L a c)))
def Lf{x y}:=aa [x,y] (I (L (P (M 3 a) (N 10)) b) (L (N 1) (S b (N 1))))
def Lg{x y}:=aa [x,y] (I (L (P a b) (N 59)) (G (Q (C a) (Z 1)) (Z 60)))
def Lh{x y}:=aa [x,y] (I (L (P a b) (N 59)) (L (P (s a) b) (N 60)))
def Li{x y}:=aa [x,y] (I (L (P (M 3 a) (N 10)) b) (L (P (M 3 a) (N 9)) (S b (N 1))))
def Lj{x}:=aa [x] (I (L (N 1) a) (E a (s (S a (N 1)))))
def xC{x y z}:=aa [x,y,z] (I (L a (P b c)) (L (s a) (P b (s c))))
def l_{x y}:=aa [x,y] (I (L (P a b) (N 59)) (L (P a b) (N 59)))
def xD{x y}:=aa [x,y] (I (L (P (M 3 a) (N 11)) b) (L (P (M 3 a) (N 10)) (S b (N 1))))
def Aj{x y}:=aa [x,y] (I (B a b) (L a b))
def Ak{x y}:=aa [x,y] (I (L (P (M 3 a) (N 11)) b) (L (N 5) (S b (N 1))))
def Lk{x y z}:=aa [x,y,z] (I (L (P a (N 2)) (P (s b) c)) (I (B c a) (L (N 1) b)))
def Gr{x}:=aa [x] (L (s a) (P (s a) (N 0)))
def Ll{x y}:=aa [x,y] (I (L (P (M 3 a) (N 11)) b) (L (N 1) (S b (N 1))))
def Lm{x y z w}:=aa [x,y,z,w] (I (L (s a) (P b c)) (I (B (P d c) a) (E b (s (S b (N 1))))))
def Lo{x y z}:=aa [x,y,z] (I (B (P a b) c) (B (S (s c) (s b)) (S (s c) b)))
def Lp{x}:=aa [x] (H (C a) (D (C (s a)) (Z 1)))
def Lq{x y}:=aa [x,y] (I (B a b) (X (E (P b (N 2)) a)))
def Am{x}:=aa [x] (L a (P a (N 2)))
def Lr{x y}:=aa [x,y] (I (L a b) (L a (P b (N 2))))
def Ls{x y}:=aa [x,y] (I (B a b) (X (E a (P b (N 2)))))
def Lu{x y z}:=aa [x,y,z] (I (B a b) (I (L b c) (X (E c a))))
def Gs{x y z}:=aa [x,y,z] (I (B a b) (I (L b c) (X (E (P c (N 2)) a))))
def Lv{x y z}:=aa [x,y,z] (I (B a b) (I (L b c) (X (E c a))))
def Lw{x y}:=aa [x,y] (I (L (P (M 3 a) (N 11)) b) (L (N 4) (S b (N 1))))
def Lx{x y z}:=aa [x,y] (I (A (B a b) (H (W 0) (Z (-1)))) (B a (s b))) [z]
def Ly{x y z}:=aa [x,y,z] (I (A (L (s (P a (N 2))) b) (L b c)) (A (L (s a) b) (L b c)))
def Lz{x y z}:=aa [x,y,z] (I (A (L (s (s a)) b) (L b c)) (A (L (s a) b) (L b c)))
def LA{x y}:=aa [x,y] (I (B a b) (A (L (s a) (s a)) (L (s a) b)))
def An{x y}:=aa [x,y] (I (L (P (M 3 a) (N 12)) b) (L (N 5) (S b (N 1))))
def xE{x y}:=aa [x,y] (I (L (P (M 3 a) (N 12)) b) (L (N 1) (S b (N 1))))
def um{x y}:=aa [x,y] (I (L (s a) b) (L (N 1) b))
def Ao{x y z w}:=aa [x,y,z,w] (I (L (s a) b) (I (L c (P d a)) (L c (P d b))))
def rj{x y}:=aa [x,y] (I (L (P (M 3 a) (N 12)) b) (L (P (M 3 a) (N 11)) (S b (N 1))))
def LC{x y z w}:=aa [x,y,z,w] (I (L (s a) b) (I (L c (P d a)) (L (s c) (P d (s b)))))
def LD{x y}:=aa [x,y] (I (L (P (M 3 a) (N 12)) b) (L (P (M 3 a) (N 10)) (S b (N 1))))
def Gu{x y}:=aa [x,y] (I (L (s a) b) (B a (s b)))
def uo{x y}:=aa [x,y] (I (L (s a) b) (B a b))
def LG{x y z}:=aa [x,y,z] (I (L a (P b c)) (L (s a) (P b (P c (N 2)))))
def LH{x}:=aa [x] (I (O (E a (N 0)) (O (E a (N 97)) (O (E a (N 45)) (O (E a (N 37)) (O (E a (N 40)) (O (E a (N 46)) (O (E a (N 63)) (O (E a (N 41)) (O (E a (N 98)) (O (E a (N 42)) (O (E a (N 91)) (O (E a (N 93)) (O (E a (N 43)) (E a (N 94))))))))))))))) (X (H (C a) (Z 36))))
def LI{x}:=aa [x] (I (O (E a (N 0)) (O (E a (N 97)) (O (E a (N 45)) (O (E a (N 37)) (O (E a (N 40)) (O (E a (N 46)) (O (E a (N 63)) (O (E a (N 41)) (O (E a (N 98)) (O (E a (N 42)) (O (E a (N 91)) (O (E a (N 93)) (O (E a (N 43)) (E a (N 94))))))))))))))) (G (Q (C a) (Z 1)) (Z 256)))
def LJ{x y}:=aa [x,y] (I (L (P (M 3 a) (N 12)) b) (L (N 6) (S b (N 1))))
def Gv{x y}:=aa [x,y] (I (X (L a (P b (N 3)))) (L (P b (N 4)) a))
def LK{x}:=aa [x] (B a (P a (N 4)))
def Gw{x y z}:=aa [x,y,z] (I (L (s a) (P b c)) (I (L c a) (E b (s (S b (N 1))))))
def uq{x y z w}:=aa [x,y,z,w] (I (L (s a) (P (s b) c)) (I (B c d) (L (s a) (P b d))))
def Gx{x}:=aa [x] (I (B (N 0) a) (G (Q (Z 0) (Z 1)) (C a)))
def LL{x}:=aa [x] (I (B (N 0) a) (X (H (C a) (Z 0))))
def LM{x y z}:=aa [y,z] (I (G (Q (W 0) (Z 1)) (C a)) (I (H (W 0) (C b)) (B b a))) [x]
def LN{x}:=aa [x] (I (X (E a (N 0))) (H (D (C a) (Z 1)) (C (S a (N 1)))))
def LP{x}:=aa [x] (I (L (N 7) a) (L (N 5) (S a (N 1))))
def LQ{x}:=aa [x] (I (L (N 7) a) (L (N 1) (S a (N 1))))
def LS{x}:=aa [x] (I (L (N 80) a) (L (N 1) (S a (N 1))))
def ur{x}:=aa [x] (L (N 0) a)
def LV{x}:=aa [x] (I (L a (N 20)) (L (P (N 0) (s a)) (N 59)))
def LW{x y}:=aa [x,y] (I (L (N 80) a) (I (L b (N 20)) (L (P (M 3 (s b)) (N 10)) (S a (N 1)))))
def Ap{x y}:=aa [x,y] (I (X (L a b)) (B b a))
def LX{x y z}:=aa [x,y,z] (I (B a (P b (s c))) (B a (P (s b) c)))
def Gy{x y}:=aa [x,y] (I (B a b) (B (s a) (s b)))
def LY{x y z}:=aa [x,y,z] (I (O (B (P a (s b)) c) (E (P a (s b)) (N 0))) (O (B (P (s a) b) c) (E (P (s a) b) (N 0))))
def xF{x y}:=aa [x,y] (I (B a (s b)) (I (L b a) (E a b)))
def Aq{x}:=aa [x] (L a (P a (N 0)))
def LZ{x}:=aa [x] (I (L (N 6) a) (L (N 6) a))
def L0{x}:=aa [x] (I (B a (N 0)) F)
def L1{x y z}:=aa [x,y,z] (I (B a b) (I (L b c) (B a (P (N 0) c))))
def L2:=aa [] (L (N 1) (N 40))
def L3{x y}:=aa [x,y] (I (B a (N 1)) (O (B (P (N 0) a) b) (E (P (N 0) a) (N 0))))
def L6{x}:=aa [x] (I (E a (N 0)) (L a (N 1)))
def Gz{x}:=aa [x] (G (Z 0) (C a))
def L7{x}:=aa [x] (I (L a (N 40)) (G (C a) (Z 100)))
def L8{x}:=aa [x] (I (L a (N 40)) (L a (N 40)))
def L9{x y}:=aa [x,y] (I (B a b) (O (B (P (N 0) a) b) (E (P (N 0) a) (N 0))))
def uu{x}:=aa [x] (L a a)
def L_{x y}:=aa [x,y] (I (L a b) (G (Z (-2)) (D (C b) (C a))))
def L'{x y z}:=aa [x,y,z] (I (B (P a b) c) (L (P a (s b)) c))
def Mb{x y}:=aa [x,y] (I (L (s a) b) (L a b))
def uv{x y z}:=aa [x,y,z] (I (A (L (s a) b) (L b c)) (A (L a b) (L b c)))
def GA{x y z w}:=aa [x,y,z,w] (I (L (P a b) c) (I (L d b) (L (P a d) c)))
def GB{x y}:=aa [x,y] (I (B a b) (L (P (s a) (N 0)) b))
def uw{x y}:=aa [x,y] (L a (P (s a) b))
def GC{x y z w}:=aa [x,y,z,w] (I (L (P (s a) b) c) (I (L d b) (L (P (s a) d) c)))
def GD{x}:=aa [x] (I (L (N 90) a) (L (N 80) (S a (N 1))))
def Mc{x y}:=aa [x,y] (I (L a b) (B (S (P b (N 3)) (s a)) (S (P b (N 3)) a)))
def Md{x y}:=aa [x,y] (I (E a b) (I (L b (N 30)) (L a (N 4095))))
def Me{x y z}:=aa [x,y,z] (I (B a b) (I (E b c) (B a c)))
def Mf{x}:=aa [x] (I (L (N 3) a) (L (N 2) a))
def Mg{x y}:=aa [x,y] (I (L a b) (L (S a (N 2)) b))
def Mh{x}:=aa [x] (I (L (N 3) a) (L (N 1) (S a (N 2))))
def Mi{x}:=aa [x] (I (L (N 100) a) (L (N 90) (S a (N 1))))
def GE{x y}:=aa [x,y] (I (L (P a (N 2)) (P (N 0) b)) (B a b))
def GF{x}:=aa [x] (I (L (N 100) a) (L (N 1) (S a (N 1))))
def Mj{x y z w v}:=aa [x,y,z,w,v] (I (L a (N 20)) (I (L b c) (I (L c d) (I (L d e) (I (L e a) (L b (N 30)))))))
def Mk{x y z w}:=aa [x,y,z,w] (I (B a b) (I (L a c) (I (L c d) (B (S (P d (N 3)) b) (S (P d (N 3)) a)))))
def Ml{x y z}:=aa [x,y,z] (I (B a b) (I (L c a) (L (s c) b)))
def Mm{x y z w}:=aa [x,y,z,w] (I (L a b) (I (L b c) (I (L c d) (L a d))))
def kI{x y z w}:=aa [x,y,z,w] (I (L (P a (N 2)) (P (s b) c)) (I (B c d) (L (P a (N 2)) (P b d))))
def Mo{x}:=aa [x] (I (L (N 100) a) (L (N 6) (S a (N 1))))
def Mp{x}:=aa [x] (I (L (N 100) a) (L (N 3) (S a (N 1))))
def GG{x}:=aa [x] (I (L a (N 20)) (L a (N 100)))
def me{x}:=aa [x] (L (P a (N 2)) (P (P a (N 2)) (N 0)))
def Mq{x}:=aa [x] (I (L (N 100) a) (L (N 100) a))
def Mr{x y z w v}:=aa [x,y,z,w,v] (I (L a b) (I (L c b) (L (P (P (P (P (P d a) (s (N 0))) c) (s (N 0))) e) (P d (P e (M 1 (P (M 2 b) (N 2))))))))
def Ms{x y z w}:=aa [x,y,z,w] (I (L (P a (P b (M 1 (P (M 2 c) (N 2))))) (N 2000)) (I (L d c) (L (P a d) (N 4096))))
def Mt{x y z w}:=aa [x,y,z,w] (I (L (P a (P b (M 1 (P (M 2 c) (N 2))))) (N 2000)) (I (L d c) (L (P a d) (N 4095))))
def Mu{x y z w v}:=aa [x,y,z,w,v] (I (L (P a (P b (M 1 (P (M 2 c) (N 2))))) (N 2000)) (I (L d c) (I (L e c) (L (P (P a (s d)) e) (N 4096)))))
def Mv{x y z w v}:=aa [x,y,z,w,v] (I (L (P a (P b (M 1 (P (M 2 c) (N 2))))) (N 2000)) (I (L d c) (I (L e c) (L (P a (P d (s e))) (N 4095)))))
def Mw{x y z w v}:=aa [x,y,z,w,v] (I (L (P a (P b (M 1 (P (M 2 c) (N 2))))) (N 2000)) (I (L d c) (I (L e c) (L (P (P a (P d (s (s e)))) b) (N 2000)))))
def Mx{x y}:=aa [x,y] (I (E a b) (I (L b (N 30)) (L a (N 100))))
def My{x}:=aa [x] (I (L a (N 20)) (L (P (M 2 a) (N 2)) (N 42)))
def Mz{x}:=aa [x] (I (L a (M 30 (N 42))) (L a (N 2000)))
def MA{x y z w}:=aa [x,y,z,w] (I (L a (M 30 (N 42))) (I (L b (N 20)) (I (L c b) (I (L d a) (L (P d c) (N 4096))))))
def GH{x y}:=aa [x,y] (I (E a b) (I (L b (N 30)) (L a (N 4096))))
def bS{x}:=aa [x] (I (L (N 1) a) (L (N 1) a))
def GI{x}:=aa [x] (I (L (N 2) a) (L (N 1) a))
def GJ{x}:=aa [x] (I (L (N 3) a) (L (N 1) a))
def kJ{x}:=aa [x] (I (L (N 5) a) (L (N 1) a))
def GK{x}:=aa [x] (I (L (N 4) a) (L (N 1) a))
def GM{x y}:=aa [x,y] (I (L (P (M 3 a) (N 10)) b) (L (N 1) b))
def GN{x y}:=aa [x,y] (I (L (P (M 3 a) (N 9)) b) (L (N 1) b))
def xG{x}:=aa [x] (I (L (N 6) a) (L (N 1) a))
def oa{x y}:=aa [x,y] (I (L (P (M 3 a) (N 11)) b) (L (N 1) b))
def Ar{x}:=aa [x] (I (L (N 90) a) (L (N 1) a))
def rk{x}:=aa [x] (I (L (N 100) a) (L (N 1) a))
def MB{x y z}:=aa [x,y,z] (I (E a b) (I (E b c) (E a c)))
def MC{x}:=aa [x] (I (L (N 80) a) (L (N 1) a))
def ME{x}:=aa [x] (I (L (N 7) a) (L (N 1) a))
def MF{x}:=aa [x] (I (O (E a (N 0)) (O (E a (N 1)) (E a (N 2)))) (B a (N 3)))
def As{x}:=aa [x] (I (E a (N 0)) (E a (N 0)))
def GO{x}:=aa [x] (I (O (E a (N 0)) (E a (N 1))) (B a (N 2)))
def MG{x y z w}:=aa [x,y,z,w] (I (E a (S (P b (N 2)) c)) (I (L c d) (I (L d b) (B (S (P b (N 2)) (s d)) a))))
def uy{x}:=aa [x] (I (L a (N 5)) (L a (N 4096)))
def MH{x y}:=aa [x,y] (I (E (S a (s b)) (N 0)) (I (B b a) (E a (s b))))
def MI{x y}:=aa [x,y] (I (E a (s b)) (G (C a) (Q (C b) (Z 1))))
def MJ{x y z}:=aa [x,y,z] (I (E a (s b)) (I (L c (M 20 b)) (I (L a (N 5)) (L (s c) (N 4096)))))
def MK{x y}:=aa [x,y] (I (E a (s b)) (L (s b) a))
def GP{x y}:=aa [x,y] (I (L a (M 20 b)) (L (s a) (M 20 (s (s b)))))
def GQ{x y}:=aa [x,y] (I (E a (s b)) (L a (s (s b))))
def ML{x y}:=aa [x,y] (I (B (s a) b) (G (Q (Q (C a) (Z 1)) (Z 1)) (C b)))
def MM{x y z}:=aa [x,y,z] (I (L a (M 20 b)) (I (L c (N 20)) (L (P a c) (M 20 (s (s b))))))
def MN{x y z}:=aa [x,y,z] (I (B (s a) b) (I (L c (M 20 a)) (I (L b (N 5)) (L (s c) (N 4096)))))
def MP{x}:=aa [x] (I (L (N 48) a) (H (D (C a) (Z 48)) (C (S a (N 48)))))
def MQ{x}:=aa [x] (I (L (N 9) a) (L (N 7) (S a (N 1))))
def MR{x y z w}:=aa [x,y,z,w] (I (B (s a) b) (I (L c (M 20 a)) (I (L d (N 20)) (I (L b (N 5)) (L (P c d) (N 4096))))))
def MT{x}:=aa [x] (I (B (N 57) a) (I (L (N 48) a) (B (N 57) a)))
def MU{x}:=aa [x] (I (B a (N 48)) (I (L (N 48) a) (B (N 57) a)))
def MV{x y z}:=aa [x,y,z] (I (B a b) (I (L c (M 20 a)) (I (L b (N 5)) (L (s c) (N 4096)))))
def MW{x y}:=aa [x,y] (I (L a (M 20 b)) (L (s a) (M 20 (s b))))
def MZ{x}:=aa [x] (L (N 0) (s a))
def M7{x y z}:=aa [x,y,z] (I (L a (M 20 b)) (I (L b (s c)) (I (L c (N 5)) (L a (N 4096)))))
def M8{x}:=aa [x] (I (L (N 12) a) (L (N 9) (S a (N 1))))
def M9{x y z}:=aa [x,y,z] (I (L a (M 20 b)) (I (L c (N 20)) (L (P c a) (M 20 (s (s b))))))
def M_{x y}:=aa [x,y] (I (L a (M 20 (s b))) (L (s a) (M 20 (s (s b)))))
def GR{x y z}:=aa [x,y,z] (I (L a (N 100)) (I (L b (N 3000)) (I (L c a) (L (P b c) (N 4096)))))
def Aw{x y z}:=aa [x,y,z] (I (L a (M 101 b)) (I (L c (N 20)) (I (L b c) (L a (N 3000)))))
def Na{x y z}:=aa [x,y,z] (I (B a b) (I (L b c) (B (S (s c) b) (S (s c) a))))
def Nb{x y z}:=aa [x,y,z] (I (L (s a) (M 101 (s b))) (I (B b c) (I (L c (N 20)) (L (s a) (N 4096)))))
def Nc{x y}:=aa [x,y] (I (L (s a) (M 101 (s b))) (L (s a) (M 101 (s b))))
def Nd{x y}:=aa [x,y] (I (L a (M 101 b)) (L (s a) (M 101 (s b))))
def Nf{x}:=aa [x] (I (L (N 90) a) (L (N 12) (S a (N 1))))
def Ng{x y z w v s}:=aa [x,y,z,w,v,s] (I (L a (M 101 b)) (I (L c (M 20 d)) (I (L e (N 20)) (I (L d (N 5)) (I (L b (V 5)) (I (L (V 5) e) (L (P a c) (N 4096))))))))
def Nh{x y z w}:=aa [x,y,z,w] (I (L a (M 101 b)) (I (L c (M 20 d)) (I (L d (N 5)) (L (P a c) (P (M 101 b) (N 100))))))
def Ni{x y z}:=aa [x,y,z] (I (B a b) (I (L c (P (M 101 a) (N 100))) (L c (M 101 b))))
def Nj{x y}:=aa [x,y] (I (L a (P (M 101 b) (N 100))) (L (s a) (M 101 (s b))))
def Nk{x y z}:=aa [x,y,z] (I (L a (P (M 101 b) (N 100))) (I (L c (N 20)) (I (L b c) (L a (N 3000)))))
def Nl{x y z}:=aa [x,y,z] (I (L (P a (N 2)) (P b c)) (I (L c a) (E b (s (S b (N 1))))))
def Nm{x}:=aa [x] (I (L (N 95) a) (L (N 3) (S a (N 1))))
def GS{x}:=aa [x] (I (L (N 95) a) (L (N 1) (S a (N 1))))
def Nn{x}:=aa [x] (I (L (N 95) a) (L (N 90) (S a (N 1))))
def GT{x y z}:=aa [x,y,z] (I (E a b) (I (L b c) (L a c)))
def Np{x}:=aa [x] (I (L (N 9) a) (L (N 1) a))
def pH{x}:=aa [x] (I (L (N 95) a) (L (N 1) a))
def Nr{x}:=aa [x] (I (L (N 12) a) (L (N 1) a))
def xH{x y}:=aa [x,y] (I (L (s a) (P (N 0) b)) (B a b))
def Nt{x y}:=aa [x,y] (L (s a) (P a (s b)))
def Nu{x y}:=aa [x,y] (L (s a) (P (s a) (s b)))
def Nv{x y z}:=aa [x,y,z] (I (L (P a (N 2)) (P b c)) (I (X (B a c)) (E b (s (S b (N 1))))))
def Nw{x y z}:=aa [x,y,z] (I (L (P a (N 2)) (P (s b) c)) (L (P a (N 2)) (P (s b) (s c))))
def rl{x y}:=aa [x,y] (I (L (P a (N 2)) (P (N 0) b)) (I (L b a) F))
def Ny{x y}:=aa [x,y] (I (L a b) (E (S a b) (N 0)))
def GU{x y}:=aa [x,y] (I (X (L a b)) (E (S a b) (s (S (S a b) (N 1)))))
def GW{x y z}:=aa [x,y,z] (I (A (L (s a) b) (L b c)) (A (B a b) (L b c)))
def Nz{x y z}:=aa [x,y,z] (I (E (S a b) (s c)) (E (S a (s b)) c))
def Ax{x y}:=aa [x,y] (I (L a b) (I (X (B a b)) (E b a)))
def Ay{x}:=aa [x] (X (B a a))
def GX{x y z w}:=aa [x,y,z,w] (I (L (P a (S (P b (N 2)) c)) d) (I (L c b) (X (L d a))))
def GY{x y z w}:=aa [x,y,z,w] (I (L (P a (S (P b (N 2)) c)) d) (L (P a (S (P b (N 2)) (s c))) d))
def GZ{x y z w v}:=aa [x,y,z,w,v] (I (L (P a (S (P b (N 2)) c)) d) (I (B c e) (I (L e b) (L (P (s a) (S (P b (N 2)) e)) d))))
def G1{x y z w}:=aa [x,y,z,w] (I (L (P a (S (P b (N 2)) c)) d) (I (B c b) (L (P (s a) (S (P b (N 2)) (s c))) d)))
def G2{x}:=aa [x] (I (L a (N 20)) (L (P (N 0) (S (P a (N 2)) (N 0))) (N 99)))
def NA{x y z}:=aa [x,y,z] (I (L (P a (s b)) (s c)) (L (P a b) (s c)))
def NB{x y z w}:=aa [x,y,z,w] (I (L (P a b) (s c)) (I (B d b) (L (P (s a) d) (s c))))
def NC{x y}:=aa [x,y] (I (L (P a (N 0)) (s b)) (L a (s b)))
def ND{x y}:=aa [x,y] (I (L a (s b)) (I (L b (N 20)) (L a (N 99))))
def G3{x}:=aa [x] (X (B a (N 0)))
def NF{x y}:=aa [x,y] (I (A (L (s (N 0)) a) (L a b)) (X (E a (N 0))))
def NG{x}:=aa [x] (I (X (B (N 0) a)) (E a (N 0)))
def NH{x y z}:=aa [x,y,z] (I (L (s a) (P (N 0) (P b c))) (L a (P b c)))
def NI{x y z}:=aa [x,y,z] (I (L (s (S a b)) c) (L a (P c b)))
def G4{x y z}:=aa [x,y,z] (I (L a (P b c)) (L (S a c) b))
def NJ{x y z}:=aa [x,y,z] (I (X (L a (P b c))) (X (L (S a c) b)))
def NK{x y z w}:=aa [x,y,z,w] (I (L (s a) (P (s b) (P c d))) (L (s a) (P b (P (s c) d))))
def NL{x y z w}:=aa [x,y,z,w] (I (L (s (S a b)) (P (s c) d)) (L (s (S a b)) (P c (s d))))
def rm{x y}:=aa [x,y] (E (P (s a) b) (s (P a b)))
def NM{x y}:=aa [x,y] (E (s (P a b)) (P (s a) b))
def NN{x y z}:=aa [x,y,z] (I (L (S a b) c) (L a (P c b)))
def NO{x y z}:=aa [x,y,z] (L (s a) (P (s a) (P (s b) c)))
def NP{x y z}:=aa [x,y,z] (L (s (S a b)) (P (s (S a b)) (s c)))
def G5{x y}:=aa [x,y] (I (B a b) (I (L b (P (N 0) a)) F))
def xI{x y z}:=aa [x,y,z] (I (L a (P (s b) c)) (L a (P b (s c))))
def G6:=aa [] (I (L (N 1) (N 0)) F)
def G7{x y z}:=aa [x,y,z] (I (L (s a) (P (s b) c)) (I (B c a) (L (N 1) b)))
def NQ{x y}:=aa [x,y] (I (B a b) (B a (s b)))
def G8{x y z}:=aa [x,y,z] (E (P (P a b) c) (P (P a c) b))
def NR{x y z}:=aa [x,y,z] (I (B (P a b) c) (B b c))
def G9{x}:=aa [x] (L a (P (s a) (N 0)))
def NT{x y z}:=aa [x,y,z] (E (P (P (s a) b) c) (P (s (P a c)) b))
def NU{x y z}:=aa [x,y,z] (E (P (s (P a b)) c) (P (P (s a) c) b))
def NV{x y z}:=aa [x,y,z] (L (s (S a b)) (P (P a (N 2)) c))
def G_{x y}:=aa [x,y] (L (s a) (P (P a (N 2)) b))
def NW{x y z}:=aa [x,y,z] (I (B a (P b c)) (I (L c a) (B (S a c) b)))
def NY{x y z}:=aa [x,y,z] (I (X (B a (P b c))) (X (B (S a c) b)))
def NZ{x}:=aa [x] (B (N 0) (s (s a)))
def G'{x}:=aa [x] (B (N 0) (s a))
def Az{x}:=aa [x] (L (s a) (P (P a (N 2)) (N 0)))
def N0{x y}:=aa [x,y] (I (B a b) (L (s a) (P (N 1) b)))
def He{x y}:=aa [x,y] (I (L a (N 20)) (L a (P (N 20) b)))
def N3{x y}:=aa [x,y] (I (L a b) (I (L b a) (E a b)))
def N4{x:Nat}:x≠0->x≠41->(41=x↔0=x):=by omega
def N5{x}:=aa [x] (I (L (s a) (N 0)) F)
def N6{x y}:=aa [x,y] (I (X (L a b)) (X (L (P a (N 2)) (s b))))
def N7{x y}:=aa [x,y] (I (X (L a b)) (B (s (s b)) (P a (N 2))))
def Hf{x y}:=aa [x,y] (I (L (s a) (s b)) (L a b))
def AA{x y}:=aa [x,y] (I (X (B (s a) b)) (L b (s a)))
def Hg{x}:=aa [x] (L (P a (N 2)) (P (P a (N 2)) (N 2)))
def N8{x y}:=aa [x,y] (I (L a (P (N 0) b)) (X (B (s b) (s a))))
def N9{x y}:=aa [x,y] (I (L a (P (N 0) b)) (X (B b a)))
def N_{x y z}:=aa [x,y,z] (I (B a b) (I (B c a) (B c b)))
def Oa{x y z}:=aa [x,y,z] (I (B a b) (I (B c a) (B (s c) b)))
def Hh{x y z}:=aa [x,y,z] (I (L a (P (s b) c)) (L a (P b (P c (N 2)))))
def Ob{x y z}:=aa [x,y,z] (I (A (E a (N 45)) (B (P b (N 2)) c)) (B (P (s b) (N 2)) (s c)))
def Oc{x y z w}:=aa [x,y,z,w] (I (A (E a (N 45)) (B (P b (N 2)) c)) (I (B c d) (B (P b (N 2)) d)))
def Hj{x y z}:=aa [x,y,z] (I (L a (P (s b) c)) (L a (P b (P c (N 3)))))
def Od{x y z}:=aa [x,y,z] (I (A (E a (N 45)) (B (P (s b) (N 2)) (s c))) (B (P b (N 2)) c))
def Oe{x y}:=aa [x,y] (I (X (B a b)) (X (B (s a) (s b))))
def Of{x y}:=aa [x,y] (I (L (s a) b) (E b (s (S b (N 1)))))
def Og{x y z}:=aa [x,y,z] (I (L (s a) b) (L a (P (s b) (P c (N 2)))))
def Oh{x y z}:=aa [x,y,z] (I (L (s a) b) (L a (P (s (P b (N 2))) (P c (N 2)))))
def Oi{x y z}:=aa [x,y,z] (I (L (s a) b) (L a (P (s b) (s c))))
def Oj{x y z}:=aa [x,y,z] (I (L (s a) b) (L a (P (s (P b (N 2))) (s c))))
def Ol{x y}:=aa [x] (I (B a (N 0)) (X (H (W 0) (Z (-1))))) [y]
def Om{x y}:=aa [x,y] (I (L (s (s a)) (s b)) (L (s a) b))
def On{x y}:=aa [x,y] (I (L a b) (X (L (P b (N 2)) (s a))))
def Oo{x y}:=aa [x,y] (I (L (s (s a)) (s b)) (E b (s (S b (N 1)))))
def Oq{x}:=aa [x] (L (P a (N 2)) (s (s a)))
def Os{x y z}:=aa [x,y,z] (I (L a (N 20)) (I (L b c) (I (X (L a c)) (X (L (N 32) b)))))
def Ot{x y z}:=aa [x,y,z] (I (L a (N 20)) (I (L b c) (I (X (L a c)) (X (L (N 32) (s b))))))
def Ou{x y}:=aa [x,y] (I (B (s a) b) (L (s a) b))
def Ov{x y}:=aa [x,y] (I (X (B (s a) b)) (I (X (L b a)) (E (s a) b)))
def Ow{x y}:=aa [x,y] (I (L (s (s (s a))) (s b)) (E b (s (S b (N 1)))))
def Ox{x y}:=aa [x,y] (I (X (B (s a) b)) (L (P b (N 2)) (P (s a) (N 2))))
def Hk{x y}:=aa [x,y] (I (X (L a b)) (L (s b) a))
def Oy{x y}:=aa [x,y] (I (X (L a (P b (N 3)))) (X (L (P a (N 2)) (P (s b) (N 3)))))
def Oz{x y}:=aa [x,y] (I (X (L a (P b (N 3)))) (B (P b (N 2)) a))
def OA{x y}:=aa [x,y] (I (X (L a (P b (N 3)))) (B (P b (N 3)) a))
def OB{x y}:=aa [x,y] (I (L a b) (L a (P b (N 4))))
def rn{x y z}:=aa [x,y,z] (I (L (s a) b) (I (L c a) (L c (s b))))
def OC{x y z}:=aa [x,y,z] (I (L (s a) b) (I (L c a) (L c b)))
def OD{x}:=aa [x] (L (s (s a)) (P a (N 2)))
def Hm{x}:=aa [x] (X (L (P a (N 2)) (N 0)))
def Hn{x}:=aa [x] (I (B (N 0) a) (X (L a (N 0))))
def OE{x y}:=aa [x,y] (I (L a b) (X (H (D (C b) (C a)) (Z (-1)))))
def OF{x y}:=aa [x,y] (I (L a b) (X (H (D (C b) (C a)) (Z (-2)))))
def OG{x y z}:=aa [x,y,z] (I (L a b) (I (L b c) (E (S c a) (P (S b a) (S c b)))))
def OH{x y}:=aa [x,y] (I (L a b) (E (P a (S b a)) b))
def OI{x y}:=aa [x,y] (I (L a b) (X (H (D (C b) (C a)) (Z (-2)))))
def OJ{x}:=aa [x] (X (E (s a) (N 0)))
def Ho{x}:=aa [x] (I (L a (N 16)) (L a (N 20)))
def OK{x}:=aa [x] (I (L a (N 16)) (L (P a (N 2)) (N 20)))
def OL{x y z}:=aa [x,y,z] (I (L a (M 4 b)) (I (L c (N 4)) (L (P c a) (M 4 (s b)))))
def OM{x y}:=aa [x,y] (I (B (N 0) a) (B (N 0) (P a b)))
def ON{x y}:=aa [x,y] (I (L (P a (s b)) (N 100)) (L a (N 100)))
def OO{x y}:=aa [x,y] (I (L (P a (s b)) (N 100)) (L (P (s a) b) (N 100)))
def Hp{x}:=aa [x] (I (L a (N 30)) (L a (N 4096)))
def Hq{x y}:=aa [x,y] (H (D (C (P a b)) (C b)) (C a))
def OP{x y z}:=aa [x,y,z] (I (E (S a b) c) (I (L a (N 30)) (L c (N 30))))
def OQ{x y}:=aa [x,y] (I (E a b) (I (L b (N 30)) (L a (N 30))))
def OS{x y z}:=aa [x,y,z] (I (E a b) (I (L b (N 30)) (L a (P (N 100) c))))
def OT{x y z}:=aa [x,y,z] (I (E a b) (I (L b (s c)) (I (L c (N 20)) (L a (N 30)))))
def OU{x y z}:=aa [x,y,z] (I (E (S a b) (N 0)) (I (E c a) (E (S c b) (N 0))))
def ro{x y}:=aa [x,y] (I (L a (s b)) (I (L b (N 20)) (L a (N 30))))
def OV{x y z}:=aa [x,y,z] (I (B a b) (I (E c b) (B a c)))
def OW{x}:=aa [x] (I (B (N 0) a) (B (N 0) a))
def OX{x}:=aa [x] (I (B (N 0) a) (H (D (C a) (Z 1)) (C (S a (N 1)))))
def Hr{x y}:=aa [x,y] (I (H (D (C a) (Z 1)) (C (S a (N 1)))) (I (L a b) (B (S a (N 1)) b)))
def Hs{x y z}:=aa [x,y,z] (I (E a b) (I (L b (s c)) (I (L c (N 20)) (L a (N 4096)))))
def OZ{x y}:=aa [x,y] (I (B a (s b)) (L a b))
def O0{x}:=aa [x] (I (L a (N 16)) (L (P (N 1) a) (N 4096)))
def O1{x}:=aa [x] (I (L a (N 16)) (L a (N 4094)))
def O2{x}:=aa [x] (I (X (E a (N 0))) (X (E a (N 0))))
def Hu{x}:=aa [x] (I (L (N 100) a) (L (N 95) a))
def O3{x}:=aa [x] (I (L a (N 50)) (L a (N 100)))
def O4{x}:=aa [x] (I (B a (N 4)) (G (Z 0) (D (Z 4) (C a))))
def O5{x}:=aa [x] (G (D (Z 4) (C a)) (Z 100))
def Hv{x y}:=aa [x,y] (I (L a (N 50)) (L (P (s a) (S (N 4) b)) (N 100)))
def O6{x}:=aa [x] (I (B a (N 4)) (B (N 0) (S (N 4) a)))
def O7{x}:=aa [x] (I (A (L a (N 4)) (B (N 0) a)) (L a (N 4096)))
def O8{x y z}:=aa [x,y,z] (I (A (L a (N 4)) (B (N 0) a)) (I (E b a) (I (L c (M 4 b)) (L c (N 4096)))))
def O9{x y z}:=aa [x,y,z] (I (A (L a (N 4)) (B (N 0) a)) (I (E b a) (I (L c (M 4 b)) (L c (N 16)))))
def O_{x y}:=aa [x,y] (I (A (L a (N 4)) (B (N 0) a)) (I (E b a) (B (N 0) b)))
def O'{x}:=aa [x] (I (L a (N 10)) (L a (N 100)))
def Pa{x}:=aa [x] (I (B a (N 6)) (G (Z 0) (D (Z 5) (C a))))
def Pb{x}:=aa [x] (G (D (Z 5) (C a)) (Z 100))
def Pc{x y}:=aa [x,y] (I (L a (N 10)) (L (P (s a) (S (N 5) b)) (N 100)))
def Pd{x y}:=aa [x,y] (I (E a b) (I (L b (N 5)) (L a (N 20))))
def Pe{x y}:=aa [x,y] (I (L a (N 10)) (L (P (s a) (S (N 5) b)) (N 50)))
def Pf{x}:=aa [x] (I (L a (N 63)) (L a (N 4096)))
def Pg:=aa [] (L (N 0) (N 10))
def Ph{x y}:=aa [x,y] (I (B a b) (X (E b a)))
def Pi{x y}:=aa [x,y] (I (B a b) (X (E (s b) a)))
def Pj{x}:=aa [x] (I (L (N 101) a) (L (N 1) a))
def Pk{x}:=aa [x] (I (L (N 101) a) (L (N 100) (S a (N 1))))
def Pl{x}:=aa [x] (X (E (P a (N 0)) (s a)))
def Pm{x}:=aa [x] (I (X (L a (N 63))) (G (Q (Z 63) (Z 1)) (C a)))
def Pn{x y}:=aa [x,y] (I (B (N 0) a) (I (E b a) (B (N 0) b)))
def Po:=aa [] (L (N 150) (s (N 150)))
def Pp:=aa [] (L (N 101) (N 150))
def Pq{x y}:=aa [x,y] (I (E a b) (I (L b (N 63)) (L a (N 63))))
def Ue{x y z}:=aa [x,y,z] (E (P (P a b) c) (P a (P b c)))
def Pr{x y z}:=aa [x,y,z] (I (E (P a (s b)) c) (B a c))
def Pt{x y z}:=aa [x,y,z] (I (E (P a (s b)) c) (E (P (s a) b) c))
def Ug{x y z}:=aa [x,y,z] (I (E a b) (I (E c b) (L a c)))
def Pu{x y z w}:=aa [x,y,z,w] (I (E (P a (N 2)) b) (I (X (L c (s a))) (A (L (s a) b) (A (L b c) (I (E d (N 37)) (B (s a) c))))))
def Pv{x y z w}:=aa [x,y,z,w] (I (E (s a) b) (I (B a c) (I (X (E d (N 37))) (A (L (s a) b) (A (L b c) (I (E d (N 37)) (B (s a) c)))))))
def Pw{x y z w}:=aa [x,y,z,w] (I (A (L (s (P a (N 2))) b) (L b c)) (A (L (s a) b) (A (L b c) (I (E d (N 37)) (B (s a) c)))))
def Px{x y z w}:=aa [x,y,z,w] (I (A (L (s (s a)) b) (L b c)) (A (L (s a) b) (A (L b c) (I (E d (N 37)) (B (s a) c)))))
def ar545{x}:=aa [x] (I (X (E a (N 98))) (I (E (N 98) a) F))
def ar546{x}:=aa [x] (I (O (E a (N 0)) (O (E a (N 97)) (O (E a (N 45)) (O (E a (N 37)) (O (E a (N 40)) (O (E a (N 46)) (O (E a (N 63)) (O (E a (N 41)) (O (E a (N 98)) (O (E a (N 42)) (O (E a (N 91)) (O (E a (N 93)) (O (E a (N 43)) (E a (N 94))))))))))))))) (I (E (N 102) a) F))
def Py{x y z}:=aa [x,y,z] (I (L (s a) (P (s b) c)) (L a (P b c)))
def Pz{x y z}:=aa [x,y,z] (I (L (s a) b) (I (L (P c b) (N 60)) (L (P c a) (N 59))))
def PA{x y z}:=aa [x,y,z] (I (L (P (M 3 a) (N 9)) b) (I (L (s c) a) (L (P (M 3 c) (N 12)) b)))
def PB{x y z}:=aa [x,y,z] (I (E (s a) b) (I (X (L c a)) (A (L a b) (L b c))))
def Uh{x y z}:=aa [x,y,z] (I (B a b) (I (L c a) (B c b)))
def Ui{x y z}:=aa [x,y,z] (I (L a b) (I (L b c) (B a (s c))))
def Uj{x y}:=aa [x,y] (I (L a b) (B a (s b)))
def PC{x y}:=aa [x,y] (I (X (B a b)) (A (L b b) (L b a)))
def rq{x y}:=aa [x,y] (I (X (B a b)) (B b (s a)))
def PD{x y}:=aa [x,y] (I (X (B a b)) (L (P (s (N 0)) b) (s a)))
def Uk{x y}:=aa [x,y] (E (P a b) (P a b))
def Ul{x y z}:=aa [x,y,z] (I (B (P a b) (P c b)) (I (X (B a c)) (E (P c b) (P (s c) b))))
def Um{x y z}:=aa [x,y,z] (I (B a b) (I (X (B (P a c) (P b c))) (E (s (P b c)) (P b c))))
def PF{x y}:=aa [x,y] (I (X (L a (s b))) (X (L (P a (N 2)) (s (s b)))))
def Hw{x y}:=aa [x,y] (I (L a b) (I (X (B a b)) (E a b)))
def PG{x}:=aa [x] (I (O (E a (N 0)) (O (E a (N 97)) (O (E a (N 45)) (O (E a (N 37)) (O (E a (N 40)) (O (E a (N 46)) (O (E a (N 63)) (O (E a (N 41)) (O (E a (N 98)) (O (E a (N 42)) (O (E a (N 91)) (O (E a (N 93)) (O (E a (N 43)) (E a (N 94))))))))))))))) (I (L (N 48) a) (I (L a (N 57)) F)))
def PH{x:Int}:(-(2:Int))<=x->¬(x=(-(1:Int)))->¬(x=(-(2:Int)))->(0:Int)<=x:=aa [] (I (G (Z (-2)) (W 0)) (I (X (H (W 0) (Z (-1)))) (I (X (H (W 0) (Z (-2)))) (G (Z 0) (W 0))))) [x]
end
end Mine
end
section
namespace Mine
open PySem
section
inductive AV where
 |none|bool (b:Bool)|int (i:Int)|bytes (b:List UInt8)|ref (i:Nat)|prog (a:Nat)
inductive AO where
 |list (xs:List AV)|tup (xs:List AV)|dict (es:List (Nat×AV))|inst (d:Nat)|barr (b:List UInt8)
 |cell (v:Option AV)|clos (c:Nat)(cl:List Nat)|exc
abbrev AH:=List AO
abbrev aM:=List (Nat×AV)
abbrev QE:=AV->AH->Prop
def AO.imm:AO->Prop
 |.tup _=>True|.inst _=>True|.clos _ _=>True|.exc=>True
 |_=>False
def bB(H H':AH):Prop:=H.length<=H'.length/\∀(i:Nat) (o:AO),H[i]?=some o->o.imm->H'[i]?=some o
noncomputable def lk(x:Nat):aM->Option AV
 |[]=>.none
 |(y,v)::r=>bif y==x then some v else lk x r
noncomputable def st(x:Nat)(v:AV)(l:aM):aM:=(x,v)::l
noncomputable def sd(x:Nat)(v:AV):aM->aM
 |[]=>[(x,v)]
 |(y,u)::r=>bif y==x then(y,v)::r else(y,u)::sd x v r
def wK:lk x []=.none:=rfl
def jP:lk x ((y,v)::r)=bif y==x then some v else lk x r:=rfl
def UH:lk x (st y v r)=bif y==x then some v else lk x r:=rfl
def lS:sd x v []=[(x,v)]:=rfl
def de:sd x v ((y,u)::r)=bif y==x then(y,v)::r else(y,u)::sd x v r:=rfl
def kf:lk x ((y,v)::r)=if y=x then some v else lk x r:=by
 by_cases h:y=x
 ·simp[jP,h]
 ·simp[jP,h,beq_false_of_ne h]
def tX:sd x v ((y,u)::r)=if y=x then(y,v)::r else(y,u)::sd x v r:=by
 by_cases h:y=x
 ·simp[de,h]
 ·simp[de,h,beq_false_of_ne h]
def aP(i j:Nat)(v:AV)(l:aM):lk j (st i v l)=if j=i then some v else lk j l:=by
 rw[show lk j (st i v l)=_ from kf];by_cases h:i=j
 ·rw[if_pos h,if_pos h.symm]
 ·rw[if_neg h,if_neg (XD h)]
inductive xn|add|sub|mul|fdiv|mod
inductive uh|eq|ne|lt|le|gt|ge
set_option genCtorIdx false in
mutual
inductive IE where
 |loc (x:Nat)|cel (j:Nat)|int (i:Int)|bool (b:Bool)|none|bytes (b:List UInt8)|glob (a:Nat)
 |attr (e:IE)(n:Nat)
 |bin (op:xn)(l r:IE)|cmp (op:uh)(l r:IE)|cmp2 (op1 op2:uh)(l m r:IE)
 |isNone (e:IE)|notNone (e:IE)|inB (e r:IE)
 |not (e:IE)|and (l r:IE)|or (l r:IE)|ite (c a b:IE)
 |idx (e i:IE)|key (e:IE)(k:Nat)|slc (e lo hi:IE)
 |tup (es:IEs)|list (es:IEs)|dict (k1:Nat)(e1:IE)(k2:Nat)(e2:IE)
 |call (f:Nat)(es:IEs)|callv (f:IE)(es:IEs)|mcall (o:IE)(f:Nat)(es:IEs)|mk (es:IEs)
 |len (e:IE)|mkBytes (e:IE)|join (e:IE)|find0 (o e:IE)|isBytes (e:IE)
 |compR (n:IE)(x:Nat)(elt:IE)
 |compT (src:IE)(x:Nat)(t elt:IE)
 |compP (src:IE)(x y:Nat)(elt:IE)
 |bad
inductive IEs where
 |nil|cons (e:IE)(r:IEs)
end
set_option genCtorIdx false in
inductive IT where
 |loc (x:Nat)|cel (j:Nat)|attr (o:IE) (n:Nat)|key (o:IE) (k:Nat)|idx (o i:IE)|tup (xs:List Nat)|bad
set_option genCtorIdx false in
inductive IS where
 |skip|seq (a b:IS)|assign (t:IT) (e:IE)|assignC (x:Nat) (e:IE)|augL (x:Nat) (op:xn) (e:IE)|augA (o:IE) (n:Nat) (op:xn) (e:IE)
 |ite (c:IE) (a b:IS)|while(c:IE) (b:IS)|forP (x y:Nat) (src:IE) (b:IS)
 |ret (e:IE)|retN|expr (e:IE)|raise|tryL (b h:IS)|defc (x:Nat) (c:Nat)|brk|cont|bad
def aE(v:AV)(Q:Bool->Prop):Prop:=match v with
 |.bool b=>Q b
 |_=>False
noncomputable def fO:Nat:=4096
def mj(op:xn)(x y:Int)(H:AH)(Q:QE):Prop:=match op with
 |.add=>Q (.int (x+y)) H
 |.sub=>Q (.int (x-y)) H
 |.mul=>(x.natAbs<2^31/\y.natAbs<2^31)/\Q (.int (x*y)) H
 |.fdiv=>(0<y/\y<1000)/\Q (.int (x/y)) H
 |.mod=>0<y/\Q (.int (x%y)) H
inductive yL(H:AH)(Q:QE)(i j:Nat):Prop
 |mk (xs ys:List AV)(h1:H[i]?=some (.list xs))(h2:H[j]?=some (.list ys))(h3:xs.length+ys.length<=fO)(d:Q (.ref H.length) (H++[.list (xs++ys)])):yL H Q i j
inductive nq(op:xn)(a b:AV)(H:AH)(Q:QE):Prop
 |ii (x y:Int)(e1:a=.int x)(e2:b=.int y)(d:mj op x y H Q)
 |bb (x y:List UInt8)(e1:a=.bytes x)(e2:b=.bytes y)(eo:op=.add)(hz:x.length+y.length<=fO)(d:Q (.bytes (x++y)) H)
 |rr (i j:Nat)(e1:a=.ref i)(e2:b=.ref j)(eo:op=.add)(d:yL H Q i j)
inductive ju(a b:AV)(P:Int->Int->Prop):Prop
 |mk (x y:Int)(e1:a=.int x)(e2:b=.int y)(p:P x y)
noncomputable def bk:uh->Int->Int->Bool
 |.eq,a,b=>decide (a=b)
 |.ne,a,b=> !decide (a=b)
 |.lt,a,b=>decide (a<b)
 |.le,a,b=>decide (a<=b)
 |.gt,a,b=>decide (b<a)
 |.ge,a,b=>decide (b<=a)
inductive DK(H:AH)(Q:Bool->Prop):AV->AV->Prop
 |nn (q:Q true):DK H Q .none .none
 |nt (j:Nat)(xs:List AV)(e:H[j]?=some (.tup xs))(q:Q false):DK H Q .none (.ref j)
 |tn (j:Nat)(xs:List AV)(e:H[j]?=some (.tup xs))(q:Q false):DK H Q (.ref j) .none
 |tt (i j:Nat)(xb yb:List UInt8)(m n:Int)(h1:H[i]?=some (.tup [.bytes xb,.int m]))(h2:H[j]?=some (.tup [.bytes yb,.int n])) (d:∀b:Bool,(b=true↔(xb=yb/\m=n))->Q b):DK H Q (.ref i) (.ref j)
 |ll (i j:Nat)(xs:List AV)(h1:H[i]?=some (.list xs))(h2:H[j]?=some (.list []))(hl:xs.length<=fO)(q:Q xs.isEmpty):DK H Q (.ref i) (.ref j)
abbrev Rm(a b:AV)(H:AH)(Q:Bool->Prop):Prop:=DK H Q a b
inductive bQ(op:uh)(a b:AV)(H:AH)(Q:Bool->Prop):Prop
 |ii (x y:Int)(e1:a=.int x)(e2:b=.int y)(q:Q (bk op x y))
 |eq (eo:op=.eq)(d:DK H Q a b)
 |ne (eo:op=.ne)(d:DK H (fun c=>Q (!c)) a b)
inductive fU(n:Nat)(v:AV)(H:AH)(Q:QE):Prop
 |mk (i d:Nat)(es:List (Nat×AV))(u:AV)(e:v=.ref i)(h1:H[i]?=some (.inst d))(h2:H[d]?=some (.dict es))(h3:lk n es=some u)(q:Q u H)
inductive lT(n:Nat)(v u:AV)(H:AH)(Q:AH->Prop):Prop
 |mk (i d:Nat)(es:List (Nat×AV))(e:v=.ref i)(h1:H[i]?=some (.inst d))(h2:H[d]?=some (.dict es))(hl:es.length<100)(q:Q (H.set d (.dict (sd n u es))))
inductive Cs(k:Nat)(v:AV)(H:AH)(Q:QE):Prop
 |mk (i:Nat)(es:List (Nat×AV))(u:AV)(e:v=.ref i)(h1:H[i]?=some (.dict es))(h2:lk k es=some u)(nd:(es.map (·.1)).Nodup)(q:Q u H)
inductive tZ(k:Nat)(v u:AV)(H:AH)(Q:AH->Prop):Prop
 |mk (i:Nat)(es:List (Nat×AV))(e:v=.ref i)(h1:H[i]?=some (.dict es))(d1:(lk k es).isSome=true)(d2:(es.map (·.1)).Nodup)(d3:es.length<100)(q:Q (H.set i (.dict (sd k u es))))
inductive tm(v:AV)(H:AH)(P:Nat->List AV->Prop):Prop
 |mk (i:Nat)(xs:List AV)(e:v=.ref i)(h:H[i]?=some (.list xs))(p:P i xs)
inductive FF(v:AV)(H:AH)(P:List AV->Prop):Prop
 |mk (i:Nat)(xs:List AV)(e:v=.ref i)(h:H[i]?=some (.tup xs))(p:P xs)
inductive HA(v:AV)(H:AH)(P:Nat->List UInt8->Prop):Prop
 |mk (i:Nat)(b:List UInt8)(e:v=.ref i)(h:H[i]?=some (.barr b))(p:P i b)
abbrev GL:=Nat->Option (List AV)
inductive TU(gl:GL)(v:AV)(H:AH)(xs:List AV):Prop
 |li (j:Nat)(e:v=.ref j)(h:H[j]?=some (.list xs))
 |tu (j:Nat)(e:v=.ref j)(h:H[j]?=some (.tup xs))
 |pr (a:Nat)(e:v=.prog a)(h:gl a=some xs)
inductive qd(gl:GL)(v i:AV)(H:AH)(Q:QE):Prop
 |by(k:Int)(b:List UInt8)(c:UInt8)(ei:i=.int k)(e:v=.bytes b)(h0:0<=k)(hl:b.length<=fO)(hc:b[k.toNat]?=some c)(q:Q (.int (c.toNat:Int)) H)
 |sq (k:Int)(xs:List AV)(u:AV)(ei:i=.int k)(e:TU gl v H xs)(h0:0<=k)(hl:xs.length<=fO)(hu:xs[k.toNat]?=some u)(q:Q u H)
noncomputable def JU:AV->Option Nat
 |.none=>some 0
 |.int k=>if 0<=k then some k.toNat else ZV
 |_=>ZV
noncomputable def JA(n:Nat):AV->Option Nat
 |.none=>some n
 |.int k=>if 0<=k then some (min k.toNat n)else ZV
 |_=>ZV
noncomputable def cut{α:Type}(xs:List α)(lo hi:Nat):List α:=(xs.drop lo).take (hi-lo)
inductive qR(gl:GL)(v lo hi:AV)(H:AH)(Q:QE):Prop
 |by(l h:Nat)(b:List UInt8)(el:JU lo=some l)(e:v=.bytes b)(hz:b.length<=fO)(hh:JA b.length hi=some h)(q:Q (.bytes (cut b (min l b.length) h)) H)
 |li (l h j:Nat)(xs:List AV)(el:JU lo=some l)(e:v=.ref j)(hj:H[j]?=some (.list xs))(hz:xs.length<=fO)(hh:JA xs.length hi=some h)(q:Q (.ref H.length) (H++[.list (cut xs (min l xs.length) h)]))
 |pr (l h a:Nat)(xs:List AV)(el:JU lo=some l)(e:v=.prog a)(hj:gl a=some xs)(hz:xs.length<=fO)(hh:JA xs.length hi=some h)(q:Q (.ref H.length) (H++[.list (cut xs (min l xs.length) h)]))
inductive Cy(v:AV)(H:AH)(Q:QE):Prop
 |by(b:List UInt8)(e:v=.bytes b)(hz:b.length<=fO)(q:Q (.int (b.length:Int)) H)
 |li (j:Nat)(xs:List AV)(e:v=.ref j)(h:H[j]?=some (.list xs))(hz:xs.length<=fO)(q:Q (.int (xs.length:Int)) H)
 |ba (j:Nat)(b:List UInt8)(e:v=.ref j)(h:H[j]?=some (.barr b))(hz:b.length<=fO)(q:Q (.int (b.length:Int)) H)
noncomputable def hV:List AV->Option (List UInt8)
 |[]=>some []
 |.int k::r=>if 0<=k/\k<256 then(hV r).map (k.toNat.toUInt8::·)else none
 |_::_=>none
noncomputable def nM:List AV->Option (List UInt8)
 |[]=>some []
 |.bytes b::r=>(nM r).map (b++·)
 |_::_=>none
def ry:hV (.int k::r)=if 0<=k/\k<256 then(hV r).map (k.toNat.toUInt8::·)else none:=rfl
def u5:nM (.bytes b::r)=(nM r).map (b++·):=rfl
inductive mR(hn:Bool)(v:AV)(H:AH)(Q:QE):Prop
 |li (j:Nat)(xs:List AV)(b:List UInt8)(e:v=.ref j)(h:H[j]?=some (.list xs))(hh:hn=true)(hz:xs.length<=fO)(hb:hV xs=some b)(q:Q (.bytes b) H)
 |ba (j:Nat)(b:List UInt8)(e:v=.ref j)(h:H[j]?=some (.barr b))(hz:b.length<=fO)(q:Q (.bytes b) H)
inductive x9(hn:Bool)(v:AV)(H:AH)(Q:QE):Prop
 |mk (j:Nat)(xs:List AV)(b:List UInt8)(e:v=.ref j)(h:H[j]?=some (.list xs))(hh:hn=true)(hz:xs.length<=fO)(hb:nM xs=some b)(hl:b.length<=fO)(q:Q (.bytes b) H)
inductive zk(v r:AV)(Q:Bool->Prop):Prop
 |mk (k:Int)(b:List UInt8)(e1:v=.int k)(e2:r=.bytes b)(h0:0<=k)(h1:k<256)(hz:b.length<=fO)(q:Q (b.any fun c=>decide ((c.toNat:Int)=k)))
inductive xR(o e:AV)(H:AH)(Q:QE):Prop
 |mk (b:List UInt8)(c:UInt8)(e1:o=.bytes b)(e2:e=.bytes [c])(hz:b.length<=fO) (hx:∀x∈b,x≠c)(q:Q (.int (-1)) H)
def rx(o e:AV)(H:AH)(Q:QE):Prop:=HA o H fun j x=>∃b,e=.bytes b/\x.length+b.length<=fO/\Q .none (H.set j (.barr (x++b)))
def rt(o e:AV)(H:AH)(Q:QE):Prop:=HA o H fun j x=>∃k:Int,e=.int k/\0<=k/\k<256/\x.length+1<=fO/\Q .none (H.set j (.barr (x++[k.toNat.toUInt8])))
noncomputable def bt(side:AH->Prop)(t:AV->AH->(Bool->AH->Prop)->Prop)(f:AV->AH->QE->Prop):List AV->List AV->AH->(List AV->AH->Prop)->Prop
 |[],acc,H,Q=>Q acc H
 |x::r,acc,H,Q=>t x H (fun b H1=>if b then f x H1 (fun v H2=>side H2/\bt side t f r (acc++[v]) H2 Q)else side H1/\bt side t f r acc H1 Q)
def jr:bt side t f (x::r) acc H Q=t x H (fun b H1=>if b then f x H1 (fun v H2=>side H2/\bt side t f r (acc++[v]) H2 Q)else side H1/\bt side t f r acc H1 Q):=rfl
inductive mT(u:AV)(H:AH)(P:AV->AV->Prop):Prop
 |mk (j:Nat)(a b:AV)(e:u=.ref j)(h:H[j]?=some (.tup [a,b]))(p:P a b)
abbrev iH:=Nat->Bool->List AV->AH->QE->(AH->Prop)->Prop
structure cM where
 fn:Nat->iH
 clos:Nat->List Nat->iH
 init:Nat
 gl:GL
noncomputable def bH(n:Int):List AV:=(VE n.toNat).map fun(i:Nat)=>AV.int (Int.ofNat i)
def QA(Γ:cM)(k:Nat)(hn:Bool)(vs:List AV)(H:AH)(Q:QE)(E:AH->Prop):Prop:=
 2<=k/\Γ.fn Γ.init (k-2) hn (.ref H.length::vs) (H++[.inst (H.length+1),.dict []])
  (fun v H1=>v=.none/\(bB (H++[.inst (H.length+1),.dict []]) H1->Q (.ref H.length) H1))
  (fun H1=>bB (H++[.inst (H.length+1),.dict []]) H1->E H1)
inductive jm(Γ:cM)(k:Nat)(hn:Bool)(f:AV)(vs:List AV)(H:AH)(Q:QE)(E:AH->Prop):Prop
 |mk (i c:Nat)(cl:List Nat)(e:f=.ref i)(h:H[i]?=some (.clos c cl))(d:Γ.clos c cl k hn vs H (fun v H1=>bB H H1->Q v H1) (fun H1=>bB H H1->E H1))
def cF(Γ:cM)(k:Nat)(hn:Bool)(f:Nat)(vs:List AV)(H:AH)(Q:QE)(E:AH->Prop):Prop:=
 Γ.fn f k hn vs H (fun v H1=>bB H H1->Q v H1) (fun H1=>bB H H1->E H1)
inductive qi(v:AV)(H:AH)(P:Prop):Prop
 |mk (i d:Nat)(es:List (Nat×AV))(e:v=.ref i)(h1:H[i]?=some (.inst d))(h2:H[d]?=some (.dict es)) (h:∀p∈es,p.1<8)(p:P)
mutual
noncomputable def ae(Γ:cM)(cl:List Nat)(k:Nat)(hn:Bool)(loc:aM):IE->AH->QE->(AH->Prop)->Prop
 |.loc x,H,Q,_=>match lk x loc with|some v=>Q v H|none=>False
 |.cel j,H,Q,_=>match cl[j]?with
  |some i=>match H[i]?with|some (.cell (some v))=>Q v H|_=>False
  |none=>False
 |.int i,H,Q,_=>Q (.int i) H
 |.bool b,H,Q,_=>Q (.bool b) H
 |.none,H,Q,_=>Q .none H
 |.bytes b,H,Q,_=>Q (.bytes b) H
 |.glob a,H,Q,_=>Q (.prog a) H
 |.attr e n,H,Q,E=>ae Γ cl k hn loc e H (fun v H1=>fU n v H1 Q) E
 |.bin op l r,H,Q,E=>ae Γ cl k hn loc l H (fun a H1=>ae Γ cl k hn loc r H1 (fun b H2=>nq op a b H2 Q) E) E
 |.cmp op l r,H,Q,E=>ae Γ cl k hn loc l H (fun a H1=>ae Γ cl k hn loc r H1 (fun b H2=>bQ op a b H2 (fun c=>Q (.bool c) H2)) E) E
 |.cmp2 o1 o2 l m r,H,Q,E=>ae Γ cl k hn loc l H (fun a H1=>ae Γ cl k hn loc m H1 (fun b H2=>bQ o1 a b H2 (fun c=>
   if c then ae Γ cl k hn loc r H2 (fun d H3=>bQ o2 b d H3 (fun c'=>Q (.bool c') H3)) E else Q (.bool false) H2)) E) E
 |.isNone e,H,Q,E=>ae Γ cl k hn loc e H (fun v H1=>Q (.bool (match v with|.none=>true|_=>false)) H1) E
 |.notNone e,H,Q,E=>ae Γ cl k hn loc e H (fun v H1=>Q (.bool (match v with|.none=>false|_=>true)) H1) E
 |.inB e r,H,Q,E=>ae Γ cl k hn loc e H (fun a H1=>ae Γ cl k hn loc r H1 (fun b H2=>zk a b (fun c=>Q (.bool c) H2)) E) E
 |.not e,H,Q,E=>ae Γ cl k hn loc e H (fun v H1=>aE v (fun b=>Q (.bool (!b)) H1)) E
 |.and l r,H,Q,E=>ae Γ cl k hn loc l H (fun v H1=>aE v (fun b=>if b then ae Γ cl k hn loc r H1 Q E else Q v H1)) E
 |.or l r,H,Q,E=>ae Γ cl k hn loc l H (fun v H1=>aE v (fun b=>if b then Q v H1 else ae Γ cl k hn loc r H1 Q E)) E
 |.ite c a b,H,Q,E=>denT Γ cl k hn loc c H (fun t H1=>if t then ae Γ cl k hn loc a H1 Q E else ae Γ cl k hn loc b H1 Q E) E
 |.idx e i,H,Q,E=>ae Γ cl k hn loc e H (fun a H1=>ae Γ cl k hn loc i H1 (fun b H2=>qd Γ.gl a b H2 Q) E) E
 |.key e n,H,Q,E=>ae Γ cl k hn loc e H (fun a H1=>Cs n a H1 Q) E
 |.slc e lo hi,H,Q,E=>ae Γ cl k hn loc e H (fun a H1=>ae Γ cl k hn loc lo H1 (fun b H2=>ae Γ cl k hn loc hi H2 (fun c H3=>qR Γ.gl a b c H3 Q) E) E) E
 |.tup es,H,Q,E=>denEs Γ cl k hn loc es H (fun vs H1=>vs.length<=fO/\Q (.ref H1.length) (H1++[.tup vs])) E
 |.list es,H,Q,E=>denEs Γ cl k hn loc es H (fun vs H1=>vs.length<=fO/\Q (.ref H1.length) (H1++[.list vs])) E
 |.dict k1 e1 k2 e2,H,Q,E=>ae Γ cl k hn loc e1 (H++[.dict []]) (fun a H1=>ae Γ cl k hn loc e2 H1 (fun b H2=>k1≠k2/\H2[H.length]?=some (.dict [])/\Q (.ref H.length) (H2.set H.length (.dict [(k1,a),(k2,b)]))) E) E
 |.call f es,H,Q,E=>denEs Γ cl k hn loc es H (fun vs H1=>cF Γ k hn f vs H1 Q E) E
 |.callv f es,H,Q,E=>ae Γ cl k hn loc f H (fun g H0=>denEs Γ cl k hn loc es H0 (fun vs H1=>jm Γ k hn g vs H1 Q E) E) E
 |.mcall o f es,H,Q,E=>ae Γ cl k hn loc o H (fun g H0=>qi g H0 (denEs Γ cl k hn loc es H0 (fun vs H1=>cF Γ k hn f (g::vs) H1 Q E) E)) E
 |.mk es,H,Q,E=>denEs Γ cl k hn loc es H (fun vs H1=>QA Γ k hn vs H1 Q E) E
 |.len e,H,Q,E=>ae Γ cl k hn loc e H (fun v H1=>Cy v H1 Q) E
 |.mkBytes e,H,Q,E=>ae Γ cl k hn loc e H (fun v H1=>mR hn v H1 Q) E
 |.join e,H,Q,E=>ae Γ cl k hn loc e H (fun v H1=>x9 hn v H1 Q) E
 |.find0 o e,H,Q,E=>ae Γ cl k hn loc o H (fun a H1=>(∃x,a=.bytes x)/\ae Γ cl k hn loc e H1 (fun b H2=>xR a b H2 Q) E) E
 |.isBytes e,H,Q,E=>ae Γ cl k hn loc e H (fun v H1=>(∃x,v=.bytes x)/\Q (.bool true) H1) E
 |.compR n x elt,H,Q,E=>ae Γ cl k hn loc n H (fun v H1=>∃m,v=.int m/\hn=true/\0<=m/\m<=100/\bt (fun _=>True) (fun _ H2 Q2=>Q2 true H2) (fun u H2 Q2=>ae Γ cl k hn [(x,u)] elt H2 Q2 E) (bH m) [] H1 (fun vs H2=>Q (.ref H2.length) (H2++[.list vs]))) E
 |.compT src x t elt,H,Q,E=>ae Γ cl k hn loc src H (fun v H1=>tm v H1 fun i xs=>hn=true/\xs.length<=100/\bt (fun H2=>H2[i]?=some (.list xs)) (fun u H2 Q2=>denT Γ cl k hn [(x,u)] t H2 Q2 E) (fun u H2 Q2=>ae Γ cl k hn [(x,u)] elt H2 Q2 E) xs [] H1 (fun vs H2=>Q (.ref H2.length) (H2++[.list vs]))) E
 |.compP src x y elt,H,Q,E=>ae Γ cl k hn loc src H (fun v H1=>tm v H1 fun i xs=>hn=true/\xs.length<=100/\x≠y/\bt (fun H2=>H2[i]?=some (.list xs)) (fun _ H2 Q2=>Q2 true H2) (fun u H2 Q2=>mT u H2 (fun a b=>ae Γ cl k hn [(y,b),(x,a)] elt H2 Q2 E)) xs [] H1 (fun vs H2=>Q (.ref H2.length) (H2++[.list vs]))) E
 |.bad,_,_,_=>False
noncomputable def denEs(Γ:cM)(cl:List Nat)(k:Nat)(hn:Bool)(loc:aM):IEs->AH->(List AV->AH->Prop)->(AH->Prop)->Prop
 |.nil,H,Q,_=>Q [] H
 |.cons e r,H,Q,E=>ae Γ cl k hn loc e H (fun v H1=>denEs Γ cl k hn loc r H1 (fun vs H2=>Q (v::vs) H2) E) E
noncomputable def denT(Γ:cM)(cl:List Nat)(k:Nat)(hn:Bool)(loc:aM):IE->AH->(Bool->AH->Prop)->(AH->Prop)->Prop
 |.not e,H,Q,E=>denT Γ cl k hn loc e H (fun b H1=>Q (!b) H1) E
 |.and l r,H,Q,E=>denT Γ cl k hn loc l H (fun b H1=>if b then denT Γ cl k hn loc r H1 Q E else Q false H1) E
 |.or l r,H,Q,E=>denT Γ cl k hn loc l H (fun b H1=>if b then Q true H1 else denT Γ cl k hn loc r H1 Q E) E
 |.ite c a b,H,Q,E=>denT Γ cl k hn loc c H (fun t H1=>if t then denT Γ cl k hn loc a H1 Q E else denT Γ cl k hn loc b H1 Q E) E
 |.loc x,H,Q,_=>match lk x loc with|some v=>(fun v H=>aE v (fun b=>Q b H)) v H|none=>False
 |.bool b,H,Q,_=>(fun v H=>aE v (fun b=>Q b H)) (.bool b) H
 |.cmp op l r,H,Q,E=>ae Γ cl k hn loc l H (fun a H1=>ae Γ cl k hn loc r H1 (fun b H2=>bQ op a b H2 (fun c=>(fun v H=>aE v (fun b=>Q b H)) (.bool c) H2)) E) E
 |.cmp2 o1 o2 l m r,H,Q,E=>ae Γ cl k hn loc l H (fun a H1=>ae Γ cl k hn loc m H1 (fun b H2=>bQ o1 a b H2 (fun c=>
   if c then ae Γ cl k hn loc r H2 (fun d H3=>bQ o2 b d H3 (fun c'=>(fun v H=>aE v (fun b=>Q b H)) (.bool c') H3)) E else(fun v H=>aE v (fun b=>Q b H)) (.bool false) H2)) E) E
 |.isNone e,H,Q,E=>ae Γ cl k hn loc e H (fun v H1=>(fun v H=>aE v (fun b=>Q b H)) (.bool (match v with|.none=>true|_=>false)) H1) E
 |.notNone e,H,Q,E=>ae Γ cl k hn loc e H (fun v H1=>(fun v H=>aE v (fun b=>Q b H)) (.bool (match v with|.none=>false|_=>true)) H1) E
 |.inB e r,H,Q,E=>ae Γ cl k hn loc e H (fun a H1=>ae Γ cl k hn loc r H1 (fun b H2=>zk a b (fun c=>(fun v H=>aE v (fun b=>Q b H)) (.bool c) H2)) E) E
 |.call f es,H,Q,E=>denEs Γ cl k hn loc es H (fun vs H1=>cF Γ k hn f vs H1 (fun v H=>aE v (fun b=>Q b H)) E) E
 |.callv f es,H,Q,E=>ae Γ cl k hn loc f H (fun g H0=>denEs Γ cl k hn loc es H0 (fun vs H1=>jm Γ k hn g vs H1 (fun v H=>aE v (fun b=>Q b H)) E) E) E
 |.mcall o f es,H,Q,E=>ae Γ cl k hn loc o H (fun g H0=>qi g H0 (denEs Γ cl k hn loc es H0 (fun vs H1=>cF Γ k hn f (g::vs) H1 (fun v H=>aE v (fun b=>Q b H)) E) E)) E
 |.isBytes e,H,Q,E=>ae Γ cl k hn loc e H (fun v H1=>(∃x,v=.bytes x)/\Q true H1) E
 |_,_,_,_=>False
end
set_option genCtorIdx false in
inductive yK where
 |next|brk|cont|ret (v:AV)
abbrev QS:=yK->aM->AH->Prop
abbrev ES:=aM->AH->Prop
abbrev CT:=Nat->List Nat
inductive m6(cl:List Nat)(j:Nat)(v:AV)(H:AH)(Q:AH->Prop):Prop
 |mk (i:Nat)(u:Option AV)(e:cl[j]?=some i)(h:H[i]?=some (.cell u))(q:Q (H.set i (.cell (some v))))
inductive pv(u w v:AV)(H:AH)(Q:AH->Prop):Prop
 |mk (j:Nat)(m:Int)(xs:List AV)(e1:u=.ref j)(e2:w=.int m)(h:H[j]?=some (.list xs))(h0:0<=m)(hm:m.toNat<xs.length)(hz:xs.length<=fO)(q:Q (H.set j (.list (xs.set m.toNat v))))
def j5(Γ:cM)(cl:List Nat)(k:Nat)(hn:Bool)(t:IT)(v:AV)(loc:aM)(H:AH)(Q:aM->AH->Prop)(E:AH->Prop):Prop:=match t with
 |.loc x=>Q (st x v loc) H
 |.cel j=>m6 cl j v H (fun H1=>Q loc H1)
 |.attr o n=>ae Γ cl k hn loc o H (fun u H1=>lT n u v H1 (fun H2=>Q loc H2)) E
 |.key o n=>ae Γ cl k hn loc o H (fun u H1=>tZ n u v H1 (fun H2=>Q loc H2)) E
 |.idx o i=>ae Γ cl k hn loc o H (fun u H1=>ae Γ cl k hn loc i H1 (fun w H2=>pv u w v H2 (fun H3=>Q loc H3)) E) E
 |.tup xs=>FF v H fun vs=>vs.length=xs.length/\xs.Nodup/\Q ((xs.zip vs).foldl (fun l p=>st p.1 p.2 l) loc) H
 |.bad=>False
noncomputable def rM(i:Nat)(src:List AV)(x y:Nat)(body:aM->AH->QS->Prop):List AV->aM->AH->QS->Prop
 |[],loc,H,Q=>Q .next loc H
 |v::r,loc,H,Q=>mT v H fun a b=>body (st y b (st x a loc)) H (fun fl loc1 H1=>fl=.next/\H1[i]?=some (.list src)/\rM i src x y body r loc1 H1 Q)
def tY(D:aM->AH->Prop)(Q:QS):QS:=fun fl loc H=>match fl with
 |.next=>D loc H
 |fl=>Q fl loc H
def mQ(I:Nat->aM->AH->Prop)(n:Nat)(Q:QS):QS:=fun fl loc H=>match fl with
 |.next=>∃m,m<n/\I m loc H
 |.cont=>∃m,m<n/\I m loc H
 |.brk=>Q .next loc H
 |.ret v=>Q (.ret v) loc H
section
variable{D:aM->AH->Prop}{Q:QS}{I:Nat->aM->AH->Prop}{n:Nat}{v:AV}{loc:aM}{H:AH}
def yx:tY D Q .next loc H=D loc H:=rfl
def TK:tY D Q (.ret v) loc H=Q (.ret v) loc H:=rfl
def TJ:tY D Q .brk loc H=Q .brk loc H:=rfl
def RJ:tY D Q .cont loc H=Q .cont loc H:=rfl
def Rp:mQ I n Q .next loc H=∃m,m<n/\I m loc H:=rfl
def Ro:mQ I n Q .cont loc H=∃m,m<n/\I m loc H:=rfl
def Tf:mQ I n Q .brk loc H=Q .next loc H:=rfl
def Tg:mQ I n Q (.ret v) loc H=Q (.ret v) loc H:=rfl
end
noncomputable def aj(Γ:cM)(ct:CT)(cl:List Nat)(k:Nat)(hn:Bool):IS->aM->AH->QS->ES->Prop
 |.skip,loc,H,Q,_=>Q .next loc H
 |.seq a b,loc,H,Q,E=>aj Γ ct cl k hn a loc H (tY (fun loc1 H1=>aj Γ ct cl k hn b loc1 H1 Q E) Q) E
 |.assign t e,loc,H,Q,E=>ae Γ cl k hn loc e H (fun v H1=>j5 Γ cl k hn t v loc H1 (fun loc1 H2=>Q .next loc1 H2) (E loc)) (E loc)
 |.assignC x e,loc,H,Q,E=>ae Γ cl k hn loc e H (fun v H1=>Q .next (st x v loc) H1) (E loc)
 |.augL x op e,loc,H,Q,E=>match lk x loc with
  |some a=>ae Γ cl k hn loc e H (fun b H1=>ju a b (fun p q=>mj op p q H1 (fun v H2=>Q .next (st x v loc) H2))) (E loc)
  |none=>False
 |.augA o n op e,loc,H,Q,E=>ae Γ cl k hn loc o H (fun u H1=>fU n u H1 (fun a H2=>ae Γ cl k hn loc e H2 (fun b H3=>ju a b (fun p q=>mj op p q H3 (fun v H4=>lT n u v H4 (fun H5=>Q .next loc H5)))) (E loc))) (E loc)
 |.ite c a b,loc,H,Q,E=>denT Γ cl k hn loc c H (fun t H1=>if t then aj Γ ct cl k hn a loc H1 Q E else aj Γ ct cl k hn b loc H1 Q E) (E loc)
 |.while c b,loc,H,Q,E=>∃(I:Nat->aM->AH->Prop)(n:Nat),I n loc H/\∀(n:Nat)(loc1:aM)(H1:AH),bB H H1->I n loc1 H1->
   denT Γ cl k hn loc1 c H1 (fun t H2=>if t then aj Γ ct cl k hn b loc1 H2 (mQ I n Q) E else Q .next loc1 H2) (E loc1)
 |.forP x y src b,loc,H,Q,E=>ae Γ cl k hn loc src H (fun v H1=>tm v H1 fun i xs=>hn=true/\xs.length<=100/\x≠y/\rM i xs x y (fun loc1 H2 Q2=>aj Γ ct cl k hn b loc1 H2 Q2 (fun _ _=>False)) xs loc H1 Q) (E loc)
 |.ret e,loc,H,Q,E=>ae Γ cl k hn loc e H (fun v H1=>Q (.ret v) loc H1) (E loc)
 |.retN,loc,H,Q,_=>Q (.ret .none) loc H
 |.expr e,loc,H,Q,E=>ae Γ cl k hn loc e H (fun _ H1=>Q .next loc H1) (E loc)
 |.raise,loc,H,_,E=>4<=k/\E loc H
 |.tryL b h,loc,H,Q,E=>hn=true/\aj Γ ct cl k hn b loc H Q (fun loc1 H1=>aj Γ ct cl k false h loc1 (H1++[.exc]) Q (fun _ _=>False))
 |.defc x c,loc,H,Q,_=>Q .next (st x (.ref H.length) loc) (H++[.clos c ((ct c).map fun j=>cl.getD j 0)])
 |.brk,loc,H,Q,_=>Q .brk loc H
 |.cont,loc,H,Q,_=>Q .cont loc H
 |.bad,_,_,_,_=>False
section
variable{Γ:cM}{ct:CT}{cl:List Nat}{k:Nat}{hn:Bool}{loc:aM}{H:AH}
def nA:ae Γ cl k hn loc (.loc x) H Q E=(match lk x loc with|some v=>Q v H|none=>False):=rfl
def wq:ae Γ cl k hn loc (.cel j) H Q E=(match cl[j]?with
  |some i=>match H[i]?with|some (.cell (some v))=>Q v H|_=>False
  |none=>False):=rfl
def IJ:ae Γ cl k hn loc (.int i) H Q E=(Q (.int i) H):=rfl
def Q5:ae Γ cl k hn loc (.bool b) H Q E=(Q (.bool b) H):=rfl
def Rb:ae Γ cl k hn loc .none H Q E=(Q .none H):=rfl
def PZ:ae Γ cl k hn loc (.bytes b) H Q E=(Q (.bytes b) H):=rfl
def Q9:ae Γ cl k hn loc (.glob a) H Q E=(Q (.prog a) H):=rfl
def Q4:ae Γ cl k hn loc (.attr e n) H Q E=(ae Γ cl k hn loc e H (fun v H1=>fU n v H1 Q) E):=rfl
def BY:ae Γ cl k hn loc (.bin op l r) H Q E=(ae Γ cl k hn loc l H (fun a H1=>ae Γ cl k hn loc r H1 (fun b H2=>nq op a b H2 Q) E) E):=rfl
def SM:ae Γ cl k hn loc (.cmp op l r) H Q E=(ae Γ cl k hn loc l H (fun a H1=>ae Γ cl k hn loc r H1 (fun b H2=>bQ op a b H2 (fun c=>Q (.bool c) H2)) E) E):=rfl
def Q7{o1 o2:uh}:ae Γ cl k hn loc (.cmp2 o1 o2 l m r) H Q E=(ae Γ cl k hn loc l H (fun a H1=>ae Γ cl k hn loc m H1 (fun b H2=>bQ o1 a b H2 (fun c=>if c then ae Γ cl k hn loc r H2 (fun d H3=>bQ o2 b d H3 (fun c'=>Q (.bool c') H3)) E else Q (.bool false) H2)) E) E):=rfl
def Kb:ae Γ cl k hn loc (.isNone e) H Q E=(ae Γ cl k hn loc e H (fun v H1=>Q (.bool (match v with|.none=>true|_=>false)) H1) E):=rfl
def IP:ae Γ cl k hn loc (.notNone e) H Q E=(ae Γ cl k hn loc e H (fun v H1=>Q (.bool (match v with|.none=>false|_=>true)) H1) E):=rfl
def SN:ae Γ cl k hn loc (.inB e r) H Q E=(ae Γ cl k hn loc e H (fun a H1=>ae Γ cl k hn loc r H1 (fun b H2=>zk a b (fun c=>Q (.bool c) H2)) E) E):=rfl
def SR:ae Γ cl k hn loc (.not e) H Q E=(ae Γ cl k hn loc e H (fun v H1=>aE v (fun b=>Q (.bool (!b)) H1)) E):=rfl
def SK:ae Γ cl k hn loc (.and l r) H Q E=(ae Γ cl k hn loc l H (fun v H1=>aE v (fun b=>if b then ae Γ cl k hn loc r H1 Q E else Q v H1)) E):=rfl
def Uo:ae Γ cl k hn loc (.or l r) H Q E=(ae Γ cl k hn loc l H (fun v H1=>aE v (fun b=>if b then Q v H1 else ae Γ cl k hn loc r H1 Q E)) E):=rfl
def SO:ae Γ cl k hn loc (.ite c a b) H Q E=(denT Γ cl k hn loc c H (fun t H1=>if t then ae Γ cl k hn loc a H1 Q E else ae Γ cl k hn loc b H1 Q E) E):=rfl
def II:ae Γ cl k hn loc (.idx e i) H Q E=(ae Γ cl k hn loc e H (fun a H1=>ae Γ cl k hn loc i H1 (fun b H2=>qd Γ.gl a b H2 Q) E) E):=rfl
def SP:ae Γ cl k hn loc (.key e n) H Q E=(ae Γ cl k hn loc e H (fun a H1=>Cs n a H1 Q) E):=rfl
def SS:ae Γ cl k hn loc (.slc e lo hi) H Q E=(ae Γ cl k hn loc e H (fun a H1=>ae Γ cl k hn loc lo H1 (fun b H2=>ae Γ cl k hn loc hi H2 (fun c H3=>qR Γ.gl a b c H3 Q) E) E) E):=rfl
def BZ:ae Γ cl k hn loc (.tup es) H Q E=(denEs Γ cl k hn loc es H (fun vs H1=>vs.length<=fO/\Q (.ref H1.length) (H1++[.tup vs])) E):=rfl
def Ra:ae Γ cl k hn loc (.list es) H Q E=(denEs Γ cl k hn loc es H (fun vs H1=>vs.length<=fO/\Q (.ref H1.length) (H1++[.list vs])) E):=rfl
def Q8:ae Γ cl k hn loc (.dict k1 e1 k2 e2) H Q E=(ae Γ cl k hn loc e1 (H++[.dict []]) (fun a H1=>ae Γ cl k hn loc e2 H1 (fun b H2=>k1≠k2/\H2[H.length]?=some (.dict [])/\Q (.ref H.length) (H2.set H.length (.dict [(k1,a),(k2,b)]))) E) E):=rfl
def Q6:ae Γ cl k hn loc (.call f es) H Q E=(denEs Γ cl k hn loc es H (fun vs H1=>cF Γ k hn f vs H1 Q E) E):=rfl
def P0:ae Γ cl k hn loc (.callv f es) H Q E=(ae Γ cl k hn loc f H (fun g H0=>denEs Γ cl k hn loc es H0 (fun vs H1=>jm Γ k hn g vs H1 Q E) E) E):=rfl
def P6:ae Γ cl k hn loc (.mcall o f es) H Q E=(ae Γ cl k hn loc o H (fun g H0=>qi g H0 (denEs Γ cl k hn loc es H0 (fun vs H1=>cF Γ k hn f (g::vs) H1 Q E) E)) E):=rfl
def Un:ae Γ cl k hn loc (.mk es) H Q E=(denEs Γ cl k hn loc es H (fun vs H1=>QA Γ k hn vs H1 Q E) E):=rfl
def SQ:ae Γ cl k hn loc (.len e) H Q E=(ae Γ cl k hn loc e H (fun v H1=>Cy v H1 Q) E):=rfl
def IM:ae Γ cl k hn loc (.mkBytes e) H Q E=(ae Γ cl k hn loc e H (fun v H1=>mR hn v H1 Q) E):=rfl
def Q_:ae Γ cl k hn loc (.join e) H Q E=(ae Γ cl k hn loc e H (fun v H1=>x9 hn v H1 Q) E):=rfl
def P5:ae Γ cl k hn loc (.find0 o e) H Q E=(ae Γ cl k hn loc o H (fun a H1=>(∃x,a=.bytes x)/\ae Γ cl k hn loc e H1 (fun b H2=>xR a b H2 Q) E) E):=rfl
def IK:ae Γ cl k hn loc (.isBytes e) H Q E=(ae Γ cl k hn loc e H (fun v H1=>(∃x,v=.bytes x)/\Q (.bool true) H1) E):=rfl
def P3:ae Γ cl k hn loc (.compR n x elt) H Q E=(ae Γ cl k hn loc n H (fun v H1=>∃m,v=.int m/\hn=true/\0<=m/\m<=100/\bt (fun _=>True) (fun _ H2 Q2=>Q2 true H2) (fun u H2 Q2=>ae Γ cl k hn [(x,u)] elt H2 Q2 E) (bH m) [] H1 (fun vs H2=>Q (.ref H2.length) (H2++[.list vs]))) E):=rfl
def P4:ae Γ cl k hn loc (.compT src x t elt) H Q E=(ae Γ cl k hn loc src H (fun v H1=>tm v H1 fun i xs=>hn=true/\xs.length<=100/\bt (fun H2=>H2[i]?=some (.list xs)) (fun u H2 Q2=>denT Γ cl k hn [(x,u)] t H2 Q2 E) (fun u H2 Q2=>ae Γ cl k hn [(x,u)] elt H2 Q2 E) xs [] H1 (fun vs H2=>Q (.ref H2.length) (H2++[.list vs]))) E):=rfl
def P2:ae Γ cl k hn loc (.compP src x y elt) H Q E=(ae Γ cl k hn loc src H (fun v H1=>tm v H1 fun i xs=>hn=true/\xs.length<=100/\x≠y/\bt (fun H2=>H2[i]?=some (.list xs)) (fun _ H2 Q2=>Q2 true H2) (fun u H2 Q2=>mT u H2 (fun a b=>ae Γ cl k hn [(y,b),(x,a)] elt H2 Q2 E)) xs [] H1 (fun vs H2=>Q (.ref H2.length) (H2++[.list vs]))) E):=rfl
def SL:ae Γ cl k hn loc .bad H Q E=(False):=rfl
def B0:denEs Γ cl k hn loc .nil H Q E=(Q [] H):=rfl
def xP:denEs Γ cl k hn loc (.cons e r) H Q E=(ae Γ cl k hn loc e H (fun v H1=>denEs Γ cl k hn loc r H1 (fun vs H2=>Q (v::vs) H2) E) E):=rfl
def S5:denT Γ cl k hn loc (.not e) H Q E=(denT Γ cl k hn loc e H (fun b H1=>Q (!b) H1) E):=rfl
def SX:denT Γ cl k hn loc (.and l r) H Q E=(denT Γ cl k hn loc l H (fun b H1=>if b then denT Γ cl k hn loc r H1 Q E else Q false H1) E):=rfl
def Up:denT Γ cl k hn loc (.or l r) H Q E=(denT Γ cl k hn loc l H (fun b H1=>if b then Q true H1 else denT Γ cl k hn loc r H1 Q E) E):=rfl
def SZ:denT Γ cl k hn loc (.ite c a b) H Q E=(denT Γ cl k hn loc c H (fun t H1=>if t then denT Γ cl k hn loc a H1 Q E else denT Γ cl k hn loc b H1 Q E) E):=rfl
def S1:denT Γ cl k hn loc (.loc x) H Q E=(match lk x loc with|some v=>(fun v H=>aE v (fun b=>Q b H)) v H|none=>False):=rfl
def Rj:denT Γ cl k hn loc (.bool b) H Q E=((fun v H=>aE v (fun b=>Q b H)) (.bool b) H):=rfl
def IR:denT Γ cl k hn loc (.cmp op l r) H Q E=(ae Γ cl k hn loc l H (fun a H1=>ae Γ cl k hn loc r H1 (fun b H2=>bQ op a b H2 (fun c=>(fun v H=>aE v (fun b=>Q b H)) (.bool c) H2)) E) E):=rfl
def Rl{o1 o2:uh}:denT Γ cl k hn loc (.cmp2 o1 o2 l m r) H Q E=(ae Γ cl k hn loc l H (fun a H1=>ae Γ cl k hn loc m H1 (fun b H2=>bQ o1 a b H2 (fun c=>if c then ae Γ cl k hn loc r H2 (fun d H3=>bQ o2 b d H3 (fun c'=>(fun v H=>aE v (fun b=>Q b H)) (.bool c') H3)) E else(fun v H=>aE v (fun b=>Q b H)) (.bool false) H2)) E) E):=rfl
def Kd:denT Γ cl k hn loc (.isNone e) H Q E=(ae Γ cl k hn loc e H (fun v H1=>(fun v H=>aE v (fun b=>Q b H)) (.bool (match v with|.none=>true|_=>false)) H1) E):=rfl
def IV:denT Γ cl k hn loc (.notNone e) H Q E=(ae Γ cl k hn loc e H (fun v H1=>(fun v H=>aE v (fun b=>Q b H)) (.bool (match v with|.none=>false|_=>true)) H1) E):=rfl
def SY:denT Γ cl k hn loc (.inB e r) H Q E=(ae Γ cl k hn loc e H (fun a H1=>ae Γ cl k hn loc r H1 (fun b H2=>zk a b (fun c=>(fun v H=>aE v (fun b=>Q b H)) (.bool c) H2)) E) E):=rfl
def Rk:denT Γ cl k hn loc (.call f es) H Q E=(denEs Γ cl k hn loc es H (fun vs H1=>cF Γ k hn f vs H1 (fun v H=>aE v (fun b=>Q b H)) E) E):=rfl
def P9:denT Γ cl k hn loc (.callv f es) H Q E=(ae Γ cl k hn loc f H (fun g H0=>denEs Γ cl k hn loc es H0 (fun vs H1=>jm Γ k hn g vs H1 (fun v H=>aE v (fun b=>Q b H)) E) E) E):=rfl
def P_:denT Γ cl k hn loc (.mcall o f es) H Q E=(ae Γ cl k hn loc o H (fun g H0=>qi g H0 (denEs Γ cl k hn loc es H0 (fun vs H1=>cF Γ k hn f (g::vs) H1 (fun v H=>aE v (fun b=>Q b H)) E) E)) E):=rfl
def IU:denT Γ cl k hn loc (.isBytes e) H Q E=(ae Γ cl k hn loc e H (fun v H1=>(∃x,v=.bytes x)/\Q true H1) E):=rfl
def Rh:aj Γ ct cl k hn .skip loc H Q E=(Q .next loc H):=rfl
def B4:aj Γ ct cl k hn (.seq a b) loc H Q E=aj Γ ct cl k hn a loc H (tY (fun loc1 H1=>aj Γ ct cl k hn b loc1 H1 Q E) Q) E:=rfl
def Kc:aj Γ ct cl k hn (.assign t e) loc H Q E=(ae Γ cl k hn loc e H (fun v H1=>j5 Γ cl k hn t v loc H1 (fun loc1 H2=>Q .next loc1 H2) (E loc)) (E loc)):=rfl
def IQ:aj Γ ct cl k hn (.assignC x e) loc H Q E=(ae Γ cl k hn loc e H (fun v H1=>Q .next (st x v loc) H1) (E loc)):=rfl
def Rd:aj Γ ct cl k hn (.augL x op e) loc H Q E=(match lk x loc with
  |some a=>ae Γ cl k hn loc e H (fun b H1=>ju a b (fun p q=>mj op p q H1 (fun v H2=>Q .next (st x v loc) H2))) (E loc)
  |none=>False):=rfl
def Rc:aj Γ ct cl k hn (.augA o n op e) loc H Q E=(ae Γ cl k hn loc o H (fun u H1=>fU n u H1 (fun a H2=>ae Γ cl k hn loc e H2 (fun b H3=>ju a b (fun p q=>mj op p q H3 (fun v H4=>lT n u v H4 (fun H5=>Q .next loc H5)))) (E loc))) (E loc)):=rfl
def SW:aj Γ ct cl k hn (.ite c a b) loc H Q E=(denT Γ cl k hn loc c H (fun t H1=>if t then aj Γ ct cl k hn a loc H1 Q E else aj Γ ct cl k hn b loc H1 Q E) (E loc)):=rfl
def P8:aj Γ ct cl k hn (.while c b) loc H Q E=(∃(I:Nat->aM->AH->Prop)(n:Nat),I n loc H/\∀(n:Nat)(loc1:aM)(H1:AH),bB H H1->I n loc1 H1->
   denT Γ cl k hn loc1 c H1 (fun t H2=>if t then aj Γ ct cl k hn b loc1 H2 (mQ I n Q) E else Q .next loc1 H2) (E loc1)):=rfl
def Rg:aj Γ ct cl k hn (.forP x y src b) loc H Q E=(ae Γ cl k hn loc src H (fun v H1=>tm v H1 fun i xs=>hn=true/\xs.length<=100/\x≠y/\rM i xs x y (fun loc1 H2 Q2=>aj Γ ct cl k hn b loc1 H2 Q2 (fun _ _=>False)) xs loc H1 Q) (E loc)):=rfl
def B3:aj Γ ct cl k hn (.ret e) loc H Q E=(ae Γ cl k hn loc e H (fun v H1=>Q (.ret v) loc H1) (E loc)):=rfl
def Rf:aj Γ ct cl k hn (.expr e) loc H Q E=(ae Γ cl k hn loc e H (fun _ H1=>Q .next loc H1) (E loc)):=rfl
def P7:aj Γ ct cl k hn .raise loc H Q E=(4<=k/\E loc H):=rfl
def Ri:aj Γ ct cl k hn (.tryL b h) loc H Q E=(hn=true/\aj Γ ct cl k hn b loc H Q (fun loc1 H1=>aj Γ ct cl k false h loc1 (H1++[.exc]) Q (fun _ _=>False))):=rfl
def xQ:aj Γ ct cl k hn (.defc x c) loc H Q E=(Q .next (st x (.ref H.length) loc) (H++[.clos c ((ct c).map fun j=>cl.getD j 0)])):=rfl
def SV:aj Γ ct cl k hn .brk loc H Q E=(Q .brk loc H):=rfl
def Re:aj Γ ct cl k hn .cont loc H Q E=(Q .cont loc H):=rfl
def SU:aj Γ ct cl k hn .bad loc H Q E=(False):=rfl
def TL:j5 Γ cl k hn (.loc x) v loc H Q E=Q (st x v loc) H:=rfl
def J2:j5 Γ cl k hn (.cel j) v loc H Q E=m6 cl j v H (fun H1=>Q loc H1):=rfl
def Fm:j5 Γ cl k hn (.attr o n) v loc H Q E=ae Γ cl k hn loc o H (fun u H1=>lT n u v H1 (fun H2=>Q loc H2)) E:=rfl
def J4:j5 Γ cl k hn (.key o n) v loc H Q E=ae Γ cl k hn loc o H (fun u H1=>tZ n u v H1 (fun H2=>Q loc H2)) E:=rfl
def J3:j5 Γ cl k hn (.idx o i) v loc H Q E=ae Γ cl k hn loc o H (fun u H1=>ae Γ cl k hn loc i H1 (fun w H2=>pv u w v H2 (fun H3=>Q loc H3)) E) E:=rfl
def TM:j5 Γ cl k hn (.tup xs) v loc H Q E=FF v H fun vs=>vs.length=xs.length/\xs.Nodup/\Q ((xs.zip vs).foldl (fun l p=>st p.1 p.2 l) loc) H:=rfl
end
end
section
inductive GV where
 |int (i:Int)|fn (a:Nat)|cls|obj (a:Nat)
structure kE where
 nm:List Str
 an:List Str
 gl:List (Str×GV)
 mt:List (Str×Nat)
 cd:List (Str×Nat)
noncomputable def pos?(x:Str):List Str->Option Nat
 |[]=>none
 |y::r=>if y==x then some 0 else(pos? x r).map (·+1)
noncomputable def CE(T:kE)(x:Str)(f:Nat->IE):IE:=match pos? x T.nm with
 |some i=>f i
 |none=>.bad
noncomputable def q3(T:kE)(x:Str)(f:Nat->IE):IE:=match pos? x T.an with
 |some i=>f i
 |none=>.bad
noncomputable def Iq(T:kE)(x:Str)(f:Nat->IE):IE:=match pos? x T.an with
 |some i=>if i<8 then f i else .bad
 |none=>.bad
noncomputable def bU:Expr->Bool
 |.Call ..=>true
 |_=>false
noncomputable def pN:Operator->Option xn
 |.Add=>some .add|.Sub=>some .sub|.Mult=>some .mul|.FloorDiv=>some .fdiv|.Mod=>some .mod|_=>none
noncomputable def iJ:CmpOp->Option uh
 |.Eq=>some .eq|.NotEq=>some .ne|.Lt=>some .lt|.LtE=>some .le|.Gt=>some .gt|.GtE=>some .ge|_=>none
noncomputable def eC:Expr->Bool
 |.Constant .none _ _=>true
 |_=>false
noncomputable def r8(T:kE)(sc:VZ)(cn:List Str)(x:Str):IE:=
 if x==("__debug__":Str)||x==("__classdict__":Str)||x==("__name__":Str)then .bad else
 match sc.names.lookup x with
 |some .local=>CE T x .loc
 |some .cell=>(match pos? x cn with|some j=>.cel j|none=>.bad)
 |some .free=>(match pos? x cn with|some j=>.cel j|none=>.bad)
 |some .globalImplicit=>(match T.gl.lookup x with
  |some (.int i)=>.int i
  |some (.obj a)=>.glob a
  |_=>.bad)
 |_=>.bad
set_option genCtorIdx false in
/-- the global name of a call: a def,the class,a builtin -/
inductive CK where
 |fn (a:Nat)|cls|len|bytes|barr|isi|val|bad
noncomputable def pO(T:kE)(sc:VZ)(x:Str):CK:=
 if x==("__debug__":Str)||x==("__name__":Str)then .bad else
 match sc.names.lookup x with
 |some .globalImplicit=>(match T.gl.lookup x with
  |some (.fn a)=>.fn a
  |some .cls=>.cls
  |some _=>.bad
  |none=>if x==("len":Str)then .len else if x==("bytes":Str)then .bytes else if x==("bytearray":Str)then .barr else if x==("isinstance":Str)then .isi else .bad)
 |some .local=>.val
 |some .cell=>.val
 |some .free=>.val
 |_=>.bad
noncomputable def nr(T:kE)(sc:VZ):Expr->Bool
 |.Name x _=>x==("bytes":Str)&&(sc.names.lookup x==some .globalImplicit)&&(T.gl.lookup x).isNone
 |_=>false
noncomputable def S7:Expr:=.Constant .none 0 ⟨0,0,0,0⟩
noncomputable def aK:Expr->Bool
 |.Starred ..=>false
 |_=>true
noncomputable def cf:Expr->Bool
 |.Tuple vs _ _=> !(vs.all (constantsAlone 8))||vs.all (foldedForSure 8)
 |_=>true
noncomputable def dN:Expr->Bool
 |.Set ..=>false
 |_=>true
noncomputable def ny(csc sc:VZ)(cn:List Str):Bool:=csc.kind==.function&&csc.names.all fun q=>match q.2 with
 |.local=>csc.names.lookup q.1==some .local
 |.free=>(sc.names.lookup q.1==some .cell||sc.names.lookup q.1==some .free)&&(pos? q.1 cn).isSome
 |.globalImplicit=>true
 |_=>false
noncomputable def t_:Expr->Option Str
 |.Constant v _ _=>(match v with|.str x=>some x|_=>none)
 |_=>none
noncomputable def ez:Expr->Option Str
 |.Name x _=>some x
 |_=>none
noncomputable def JZ(r:Expr->IE):Option Expr->IE
 |none=>.none
 |some e=>r e
noncomputable def Bw:Const->IE
 |.int i=>.int i|.bool b=>.bool b|.none=>.none|.bytes b=>.bytes b|_=>.bad
noncomputable def Eh(r:Expr->IE)(l x:Expr)(op:CmpOp):IE:=match op with
 |.Is=>if eC x then .isNone (r l)else .bad
 |.IsNot=>if eC x then .notNone (r l)else .bad
 |.In=>.inB (r l) (r x)
 |op=>(match iJ op with|some o=>.cmp o (r l) (r x)|none=>.bad)
noncomputable def HD(r:Expr->IE)(l:Expr):List CmpOp->List Expr->IE
 |[op],[x]=>Eh r l x op
 |[o1,o2],[m,x]=>(match iJ o1 with|some a=>(match iJ o2 with|some b=>.cmp2 a b (r l) (r m) (r x)|none=>.bad)|none=>.bad)
 |_,_=>.bad
noncomputable def PW(T:kE)(r:Expr->IE)(v i:Expr):IE:=match i with
 |.Slice lo hi st _=>(match st with|none=>.slc (r v) (JZ r lo) (JZ r hi)|some _=>.bad)
 |.Constant c _ _=>(match c with|.str x=>q3 T x (.key (r v))|_=>.idx (r v) (r i))
 |.Tuple ..=>.bad
 |i=>.idx (r v) (r i)
noncomputable def HF(T:kE)(r:Expr->IE):List (Option Expr)->List Expr->IE
 |[some kx,some ky],[a,b]=>(match t_ kx with
  |some x=>(match t_ ky with|some y=>q3 T x fun i=>q3 T y fun j=>.dict i (r a) j (r b)|none=>.bad)
  |none=>.bad)
 |_,_=>.bad
noncomputable def Bv(T:kE)(cn:List Str)(sc:VZ)(r:Expr->IE)(rs:List Expr->IEs)(f:Str)(as:List Expr):IE:=if !(as.all aK)then .bad else(match pO T sc f with
 |.fn a=>.call a (rs as)
 |.cls=>.mk (rs as)
 |.val=>.callv (r8 T sc cn f) (rs as)
 |.len=>(match as with|[a]=>if aK a then .len (r a)else .bad|_=>.bad)
 |.bytes=>(match as with|[a]=>if aK a then .mkBytes (r a)else .bad|_=>.bad)
 |.barr=>.bad
 |.isi=>(match as with|[a,b]=>if aK a&&nr T sc b then .isBytes (r a)else .bad|_=>.bad)
 |.bad=>.bad)
noncomputable def qw:Expr->Bool
 |.Constant v _ _=>(match v with|.bytes b=>b.isEmpty|_=>false)
 |_=>false
noncomputable def Bx(T:kE)(r:Expr->IE)(rs:List Expr->IEs)(o:Expr)(m:Str)(ap pos:Pos)(as:List Expr):IE:=if bU o|| !(ap.endLine==pos.line)|| !decide (as.length<29)|| !(as.all aK)then .bad else(match T.mt.lookup m with
 |some f=>.mcall (r o) f (rs as)
 |none=>(match as with
  |[a]=>if !aK a then .bad
   else if m==("find":Str)then .find0 (r o) (r a)
   else if m==("join":Str)then(if qw o then .join (r a)else .bad)
   else .bad
  |_=>.bad))
noncomputable def qF(T:kE)(sc:VZ):Expr->Option Expr
 |.Call f as kw _=>(match f,as,kw with
  |.Name r _,[m],[]=>if r==("range":Str)&&(sc.names.lookup r==some .globalImplicit)&&(T.gl.lookup r).isNone then some m else none
  |_,_,_=>none)
 |_=>none
noncomputable def HE(T:kE)(cn:List Str)(sc:VZ)(cp:Bool)(r:Expr->IE)(r':Expr->IE)(elt:Expr)(csc:VZ):List Comprehension->IE
 |[g]=>(match ez g.target with
  |some x=>if cp&&ny csc sc cn&&(csc.names.lookup x==some .local)&&(g.is_async==0)then(match g.ifs with
   |[]=>(match qF T sc g.iter with|some m=>if aK m then CE T x fun i=>.compR (r m) i (r' elt)else .bad|none=>.bad)
   |[t]=>if dN g.iter then CE T x fun i=>.compT (r g.iter) i (r' t) (r' elt)else .bad
   |_=>.bad)else .bad
  |none=>.bad)
 |_=>.bad
mutual
noncomputable def aF(T:kE)(cn:List Str)(cp:Bool):Nat->VZ->Expr->IE
 |0,_,_=>.bad
 |n+1,sc,e=>match e with
  |.Name x _=>r8 T sc cn x
  |.Constant v _ _=>Bw v
  |.Attribute o a _=>if bU o then .bad else Iq T a (.attr (aF T cn cp n sc o))
  |.BinOp l op r _=>(match pN op with|some o=>.bin o (aF T cn cp n sc l) (aF T cn cp n sc r)|none=>.bad)
  |.UnaryOp op x _=>(match op with|.Not=>.not (aF T cn cp n sc x)|_=>.bad)
  |.Compare l ops cs _=>HD (aF T cn cp n sc) l ops cs
  |.BoolOp op vs _=>(match op with|.And=>compAnd T cn cp n sc vs|.Or=>compOr T cn cp n sc vs)
  |.IfExp c a b _=>.ite (aF T cn cp n sc c) (aF T cn cp n sc a) (aF T cn cp n sc b)
  |.Subscript v i _=>PW T (aF T cn cp n sc) v i
  |.Tuple es _ _=>.tup (compEs T cn cp n sc es)
  |.List es _=>.list (compEs T cn cp n sc es)
  |.Dict ks vs _=>HF T (aF T cn cp n sc) ks vs
  |.Call f as kw pos=>(match kw with
   |[]=>(match f with
    |.Name f _=>Bv T cn sc (aF T cn cp n sc) (compEs T cn cp n sc) f as
    |.Attribute o m ap=>Bx T (aF T cn cp n sc) (compEs T cn cp n sc) o m ap pos as
    |_=>.bad)
   |_=>.bad)
  |.ListComp elt gs csc _=>HE T cn sc cp (aF T cn false n sc) (aF T cn false n csc) elt csc gs
  |_=>.bad
noncomputable def compEs(T:kE)(cn:List Str)(cp:Bool):Nat->VZ->List Expr->IEs
 |0,_,_=>.cons .bad .nil
 |_+1,_,[]=>.nil
 |n+1,sc,e::r=>if aK e then .cons (aF T cn cp n sc e) (compEs T cn cp n sc r)else .cons .bad .nil
noncomputable def compAnd(T:kE)(cn:List Str)(cp:Bool):Nat->VZ->List Expr->IE
 |0,_,_=>.bad
 |_+1,_,[]=>.bad
 |n+1,sc,[e]=>aF T cn cp n sc e
 |n+1,sc,e::r=>.and (aF T cn cp n sc e) (compAnd T cn cp n sc r)
noncomputable def compOr(T:kE)(cn:List Str)(cp:Bool):Nat->VZ->List Expr->IE
 |0,_,_=>.bad
 |_+1,_,[]=>.bad
 |n+1,sc,[e]=>aF T cn cp n sc e
 |n+1,sc,e::r=>.or (aF T cn cp n sc e) (compOr T cn cp n sc r)
end
noncomputable def bV(T:kE)(sc:VZ)(x:Str):Option Nat:=if sc.names.lookup x==some .local then pos? x T.nm else none
noncomputable def bL:Expr->Bool
 |.ListComp ..=>true|.SetComp ..=>true|.DictComp ..=>true|.GeneratorExp ..=>true
 |_=>false
noncomputable def dg(T:kE)(sc:VZ):List Expr->Option (List Nat)
 |[]=>some []
 |.Name x _::r=>(bV T sc x).bind fun i=>(dg T sc r).map (i::·)
 |_::_=>none
noncomputable def compT(T:kE)(cn:List Str)(n:Nat)(sc:VZ):Expr->IT
 |.Name x _=>(match sc.names.lookup x with
  |some .local=>(match pos? x T.nm with|some i=>.loc i|none=>.bad)
  |some .cell=>(match pos? x cn with|some i=>.cel i|none=>.bad)
  |_=>.bad)
 |.Attribute o a _=>(match pos? a T.an with|some i=>if i<8 then .attr (aF T cn true n sc o) i else .bad|none=>.bad)
 |.Subscript o i _=>(match t_ i with
  |some x=>(match pos? x T.an with|some i=>.key (aF T cn true n sc o) i|none=>.bad)
  |none=>(match i with|.Slice ..=>.bad|i=>.idx (aF T cn true n sc o) (aF T cn true n sc i)))
 |.Tuple es _ _=>(match dg T sc es with|some l=>.tup l|none=>.bad)
 |_=>.bad
noncomputable def nx:Expr->Pos->Str->Bool
 |.ListComp _ _ csc p,tp,t=>p.line==tp.line&& !(csc.names.any fun(n,k)=>n==t&&(k==.local||k==.cell))
 |_,_,_=>false
noncomputable def wH:Expr->Bool
 |.Tuple ..=>true
 |_=>false
noncomputable def CV:List Comprehension->Option (Str×Str×Expr)
 |[g]=>if g.is_async==0&&g.ifs.isEmpty then(match g.target with
  |.Tuple es _ _=>(match es with
   |[y,z]=>(match ez y with|some y=>(match ez z with|some z=>some (y,z,g.iter)|none=>none)|none=>none)
   |_=>none)
  |_=>none)else none
 |_=>none
noncomputable def Bu(T:kE)(cn:List Str)(sc:VZ)(r:Expr->IE)(r':VZ->Expr->IE)(t v:Expr):IS:=match t with
 |.Name x tp=>(match v with
  |.ListComp elt gs csc _=>(match CV gs with
   |some (y,z,src)=>(match bV T sc x with
    |some i=>if nx v tp x&&ny csc sc cn&&dN src&&(csc.names.lookup y==some .local)&&(csc.names.lookup z==some .local)then
      (match pos? y T.nm with
      |some a=>(match pos? z T.nm with|some b=>.assignC i (.compP (r src) a b (r' csc elt))|none=>.bad)
      |none=>.bad)else .bad
    |none=>.bad)
   |none=>.bad)
  |_=>.bad)
 |_=>.bad
noncomputable def vt:Expr->Option (Str×Str)
 |.Tuple es _ _=>(match es with
  |[y,z]=>(match ez y with|some y=>(match ez z with|some z=>some (y,z)|none=>none)|none=>none)
  |_=>none)
 |_=>none
noncomputable def qt:Expr->Bool
 |.Constant ..=>true
 |_=>false
noncomputable def u1(sc:VZ)(x:Str):Bool:=x==("LuaError":Str)&&(sc.names.lookup x==some .globalImplicit)
noncomputable def EZ(sc:VZ):Expr->Bool
 |.Call f as kw _=>(match f,as,kw with
  |.Name x _,[a],[]=>u1 sc x&&(match a with|.Constant v _ _=>(match v with|.bytes _=>true|_=>false)|_=>false)
  |_,_,_=>false)
 |_=>false
noncomputable def vh(sc:VZ):List ExceptHandler->Option (List Stmt)
 |[.ExceptHandler t nm b _]=>(match t with
  |some t=>(match ez t with|some x=>if u1 sc x&&nm.isNone&& !b.isEmpty then some b else none|none=>none)
  |none=>none)
 |_=>none
mutual
noncomputable def mr(T:kE)(cn:List Str):Nat->VZ->Stmt->IS
 |0,_,_=>.bad
 |n+1,sc,s=>match s with
  |.Return v _=>(match v with|some e=>.ret (aF T cn true n sc e)|none=>.retN)
  |.Assign ts v _=>(match ts with
   |[t]=>if bL v then Bu T cn sc (aF T cn false n sc) (aF T cn false n) t v
    else if !wH t||cf v then(match compT T cn n sc t with|.bad=>.bad|tt=>.assign tt (aF T cn true n sc v))else .bad
   |_=>.bad)
  |.AugAssign t op e _=>(match pN op with
   |some o=>(match t with
    |.Name x _=>(match bV T sc x with|some i=>.augL i o (aF T cn true n sc e)|none=>.bad)
    |.Attribute u a _=>(match pos? a T.an with|some i=>if i<8 then .augA (aF T cn true n sc u) i o (aF T cn true n sc e)else .bad|none=>.bad)
    |_=>.bad)
   |none=>.bad)
  |.If c a b _=>.ite (aF T cn true n sc c) (compSs T cn n sc a) (compSs T cn n sc b)
  |.While c b o _=>(match o with|[]=>.while (aF T cn true n sc c) (compSs T cn n sc b)|_=>.bad)
  |.For t src b o _=>(match o with
   |[]=>(match vt t with
    |some (x,y)=>(match bV T sc x with
     |some i=>(match bV T sc y with|some j=>.forP i j (aF T cn true n sc src) (compSs T cn n sc b)|none=>.bad)
     |none=>.bad)
    |none=>.bad)
   |_=>.bad)
  |.Expr e _=>if bL e||qt e then .bad else .expr (aF T cn true n sc e)
  |.Raise e c _=>(match c with
   |none=>(match e with|some e=>if EZ sc e then .raise else .bad|none=>.bad)
   |some _=>.bad)
  |.Try b hs o f _=>(match o with
   |[]=>(match f with
    |[]=>(match vh sc hs with|some h=>.tryL (compSs T cn n sc b) (compSs T cn n sc h)|none=>.bad)
    |_=>.bad)
   |_=>.bad)
  |.Break _=>.brk
  |.Continue _=>.cont
  |.Pass _=>.skip
  |_=>.bad
noncomputable def compSs(T:kE)(cn:List Str):Nat->VZ->List Stmt->IS
 |0,_,_=>.bad
 |_+1,_,[]=>.skip
 |n+1,sc,s::r=>.seq (mr T cn n sc s) (compSs T cn n sc r)
end
noncomputable def bC:kE where
 nm:=[Vg "self",Vg "p",Vg "s",Vg "c",Vg "end",Vg "letter",Vg "low",Vg "found",Vg "text",Vg "pattern",Vg "depth",Vg "tick",Vg "zero",Vg "first",Vg "is_first",Vg "is_escaped",Vg "last",Vg "is_wanted",Vg "here",
  Vg "second",Vg "after",Vg "is_here",Vg "begin",Vg "open_ones",Vg "ahead",Vg "many",Vg "kind",Vg "number",Vg "digit",Vg "size",Vg "start",Vg "is_whole",Vg "value",Vg "news",Vg "held",Vg "most",Vg "at",Vg "octet",
  Vg "is_bound",Vg "ends_at",Vg "give",Vg "bag",Vg "matcher",Vg "place",Vg "spans",Vg "is_odd",Vg "span",Vg "script",Vg "few",Vg "past",Vg "rest",Vg "spot"]
 an:=[Vg "text",Vg "pattern",Vg "most_depth",Vg "tick",Vg "depth",Vg "level",Vg "starts",Vg "lengths",Vg "all",Vg "at"]
 gl:=[(Vg "ESCAPE_SIGN",GV.int 37),(Vg "ZERO_SIGN",GV.int 48),(Vg "NINE_SIGN",GV.int 57),(Vg "capture_text",GV.fn 28),(Vg "expanded",GV.fn 36),(Vg "replaced",GV.fn 43),
  (Vg "MOST_CAPTURES",GV.int 32),(Vg "UNFINISHED",GV.int (-1)),(Vg "POSITION",GV.int (-2)),(Vg "ESCAPE",GV.int 37),(Vg "CARET",GV.int 94),(Vg "DOLLAR",GV.int 36),(Vg "DOT",GV.int 46),(Vg "OPEN",GV.int 40),
  (Vg "CLOSE",GV.int 41),(Vg "SET_OPEN",GV.int 91),(Vg "SET_CLOSE",GV.int 93),(Vg "STAR",GV.int 42),(Vg "PLUS",GV.int 43),(Vg "MINUS",GV.int 45),(Vg "MARK",GV.int 63),
  (Vg "is_lower",GV.fn 70),(Vg "is_upper",GV.fn 77),(Vg "is_alpha",GV.fn 84),(Vg "is_digit",GV.fn 91),(Vg "in_class",GV.fn 126),(Vg "Matcher",GV.cls),(Vg "first_match",GV.fn 293),(Vg "behind_match",GV.fn 300),
  (Vg "_law_pieces",GV.obj 301),(Vg "_law_told",GV.fn 308),(Vg "_law_ends",GV.fn 315),(Vg "_law_give",GV.fn 322),(Vg "_law_replaced",GV.fn 329),(Vg "_law_spans",GV.fn 336),(Vg "_law_laid",GV.fn 343)]
 mt:=[(Vg "count",148),(Vg "reset",155),(Vg "at",162),(Vg "class_end",169),(Vg "in_set",176),(Vg "is_single",183),(Vg "match",190),(Vg "match_here",197),(Vg "match_special",204),(Vg "match_balance",211),
  (Vg "expand_most",225),(Vg "expand_least",232),(Vg "start_capture",239),(Vg "end_capture",246),(Vg "to_close",253),(Vg "capture",267),(Vg "captures",272)]
 cd:=[(Vg "ends_at",0),(Vg "give",1),(Vg "held",2)]
end
end Mine
end
section
namespace Mine
open PySem PySem.W PyProof.Rows PySem.Calls
section
inductive aw{α β:Type}(R:α->β->Prop):List α->List β->Prop
 |nil:aw R [] []
 |cons {a b l m}:R a b->aw R l m->aw R (a::l) (b::m)
section
variable{α β:Type}{R S:α->β->Prop}
def aw.length(x:aw R l m):l.length=m.length:=by
 induction x with
 |nil=>rfl
 |cons _ _ ih=>exact congrArg (·+1) ih
def aw.mono(h:∀a b,R a b->S a b)(x:aw R l m):aw S l m:=by
 induction x with
 |nil=>exact .nil
 |cons x _ ih=>exact .cons (h _ _ x) ih
def aw.append(x:aw R l m)(y:aw R l' m'):aw R (l++l') (m++m'):=by
 induction x with
 |nil=>exact y
 |cons x _ ih=>exact .cons x ih
def aw.get{l:List α}{m:List β}(x:aw R l m){i:Nat}{a:α}(e:l[i]?=some a):∃b,m[i]?=some b/\R a b:=by
 induction x generalizing i with
 |nil=>injection e
 |cons x _ ih=>
  induction i using V3 with
  |zero=>(injection e with e;subst e);exact i0 _ rfl x
  |succ i=>exact ih e
def aw.drop(n:Nat)(x:aw R l m):aw R (l.drop n) (m.drop n):=by
 induction x generalizing n with
 |nil=>induction n using V3<;>exact .nil
 |cons x t ih=>
  induction n using V3 with
  |zero=>exact .cons x t
  |succ n=>exact ih n
def aw.take(n:Nat)(x:aw R l m):aw R (l.take n) (m.take n):=by
 induction x generalizing n with
 |nil=>induction n using V3<;>exact .nil
 |cons x t ih=>
  induction n using V3 with
  |zero=>exact .nil
  |succ n=>exact .cons x (ih n)
def aw.set(hab:R a b)(n:Nat)(x:aw R l m):aw R (l.set n a) (m.set n b):=by
 induction x generalizing n with
 |nil=>exact .nil
 |cons x t ih=>
  induction n using V3 with
  |zero=>exact .cons hab t
  |succ n=>exact .cons x (ih n)
def aw.nil_inv(x:aw R [] m):m=[]:=by cases x;rfl
def aw.cons_inv(x:aw R (a::l) m):∃b m',m=b::m'/\R a b/\aw R l m':=by
 cases x with
 |cons x t=>exact i1 _ _ rfl x t
end
def VR(ad:List Addr):AV->Vq->Prop
 |.none,v=>v=.none
 |.bool b,v=>v=.bool b
 |.int i,v=>∃t,v=.int i t
 |.bytes b,v=>∃t,v=.bytes b.toArray t
 |.ref i,v=>∃a,ad[i]?=some a/\v=.ref a
 |.prog a,v=>v=.ref a
def VR.mono{ad ad':List Addr}(h:ad<+:ad'):∀{x:AV}{v:Vq},VR ad x v->VR ad' x v
 |.none,_,e=>e
 |.bool _,_,e=>e
 |.int _,_,e=>e
 |.bytes _,_,e=>e
 |.prog _,_,e=>e
 |.ref i,_,⟨a,e,r⟩=>(i0 a (by refine o0 ad' h fun t=>?_;rw[VF (Vn.mp e).1];exact e) r)
def aX{ad ad':List Addr}(h:ad<+:ad'){i:Nat}(e:ad[i]?=some a):ad'[i]?=some a:=by
 refine o0 ad' h fun t=>?_;rw[VF (Vn.mp e).1];exact e
structure z_ where
 name:Str
 qual:Str
 params:Arguments
 body:List Stmt
 scope:VZ
 free:List Str
 pos:Pos
structure Hid where
 e:Option (Addr×Obj):=none
 g:Option (Addr×Obj×Addr×Option (Addr×Obj)):=none
noncomputable def Hid.code(hd:Hid):Nat->Option Addr
 |0=>hd.e.map (·.1)
 |1=>hd.g.map (·.1)
 |2=>match hd.g with|some (_,_,_,some (a,_))=>some a|_=>none
 |_=>none
noncomputable def fG(pos:Pos):Option Addr->Array Vq
 |none=>#[]
 |some c=>#[rawInt pos.line,rawInt pos.col,.ref c]
def k9(o:Obj)(q:Str):Prop:=∃vs t,o.data=.fields vs/\vs[1]?=some (.str q t)
def lW(o:Obj)(c P:Addr):Prop:=∃vs file tf flags tg inF text tt,o.cls=.type "code"/\o.data=.fields vs/\vs[11]?=some (.ref P)/\vs.getD 11 .none=.ref P/\vs.getD 18 .none=.str file tf/\
  vs.getD 7 .none=.int flags tg/\vs.getD 9 .none=.bool inF/\vs.getD 10 .none=.int text tt/\c≠P
structure CC where
 prog:WU
 w:XC
 K:Frag
 G:Heap
 T:kE
 p:WU
 loose:List Str
 mean:Zu->Option Vq
 mg:Str->Option Vq
 mb:Str->Option Vq
 cls:Addr
 lua:Addr
 cdat:Nat->z_
 tE:Addr
 tG:Addr
 gens:Array GenState
 drawn:Drawn
 os:OsState
noncomputable def Hid.objs(cc:CC)(hd:Hid):List (Addr×Obj):=
 (cc.tE,Wz (fG (cc.cdat 0).pos (hd.e.map (·.1))))::(cc.tG,Wz (fG (cc.cdat 1).pos (hd.g.map (·.1))))::(hd.e.toList++
  (match hd.g with|none=>[]|some (a,o,P,x)=>(a,o)::(P,Wz (fG (cc.cdat 2).pos (x.map (·.1))))::x.toList))
structure Hid.Ok(cc:CC)(hd:Hid):Prop where
 e:∀a o,hd.e=some (a,o)->k9 o (cc.cdat 0).qual
 g:∀a o P x,hd.g=some (a,o,P,x)->k9 o (cc.cdat 1).qual/\lW o a P
 h:∀a o P b ob,hd.g=some (a,o,P,some (b,ob))->k9 ob (cc.cdat 2).qual
def DE(cc:CC)(ad:List Addr)(p:Nat×AV)(e:DictEntry):Prop:=
 ∃x t,cc.T.an[p.1]?=some x/\e.key=.str x t/\e.hash=YB cc.w.params x/\VR ad p.2 e.val
def OR(cc:CC)(hd:Hid)(ad:List Addr):AO->Obj->Prop
 |.list xs,o=>∃vs,(o.cls=.type "list"/\∃n,o.data=.seq vs n)/\aw (VR ad) xs vs.toList
 |.tup xs,o=>∃vs n,o={cls:=.type "tuple",data:=.seq vs n}/\aw (VR ad) xs vs.toList
 |.dict es,o=>∃ents n,o=YX ents n/\aw (DE cc ad) es ents
 |.inst d,o=>∃dx,ad[d]?=some dx/\o=instObj cc.cls dx
 |.barr b,o=>o={cls:=.type "bytearray",data:=.bytearray b.toArray 0}
 |.cell v,o=>∃u,o.data=.cell u/\(match v,u with|none,none=>True|some x,some y=>VR ad x y|_,_=>False)
 |.clos c cl,o=>∃ads c' doc pm ctv,hd.code c=some c'/\aw (fun i a=>ad[i]?=some a) cl ads/\(cc.cdat c).free.length=cl.length/\
   o={cls:=.type "function",data:=.func (fnX (cc.cdat c).name (cc.cdat c).qual (cc.cdat c).params (cc.cdat c).body (cc.cdat c).scope ((cc.cdat c).free.zip ads) .none .none doc pm none (.ref c') ctv)}
 |.exc,o=>∃vs,o.cls=.ref cc.lua/\o.data=.fields vs/\6<=vs.size/\vs[2]?=some .none
def Hid.le(hd hd':Hid):Prop:=∀c a,hd.code c=some a->hd'.code c=some a
def Hid.le.refl(hd:Hid):hd.le hd:=fun _ _ e=>e
def Hid.le.trans{a b c:Hid}(x:a.le b)(y:b.le c):a.le c:=fun k q e=>y k q (x k q e)
def OR.mono{cc:CC}{ad ad':List Addr}(hh:hd.le hd')(h:ad<+:ad')(x:OR cc hd ad ao o):OR cc hd' ad' ao o:=by
 induction ao using AO.casesOn with
 |list xs=>refine o1 x fun vs e r=>?_;exact i0 vs e (r.mono fun _ _ x=>x.mono h)
 |tup xs=>refine o2 x fun vs n e r=>?_;exact i2 vs n e (r.mono fun _ _ x=>x.mono h)
 |dict es=>refine o2 x fun vs n e r=>?_;exact i2 vs n e (r.mono fun _ _ x=>by refine o3 x fun x t a b c d=>?_;exact⟨x,t,a,b,c,d.mono h⟩)
 |inst d=>refine o1 x fun dx e r=>?_;exact i0 dx (aX h e) r
 |barr b=>exact x
 |cell v=>refine o1 x fun u e r=>?_;exact i0 u e (by induction v using Option.casesOn<;>induction u using Option.casesOn<;>first|exact r|exact VR.mono h r)
 |clos c cl=>refine o4 x fun ads c' doc pm ctv e1 e2 e3 e4=>?_;exact i3 ads c' doc pm ctv (hh _ _ e1) (e2.mono fun _ _ x=>aX h x) e3 e4
 |exc=>exact x
structure HR(cc:CC)(fr:List (Addr×Obj))(hd:Hid)(ad:List Addr)(H:AH)(h:Heap):Prop where
 keep:∀b o,cc.G.get? b=some o->h.get? b=some o
 len:ad.length=H.length
 nodup:(ad++(fr.map (·.1)++(hd.objs cc).map (·.1))).Nodup
 new:∀a∈ad++(fr.map (·.1)++(hd.objs cc).map (·.1)),cc.G.get? a=none
 obj:∀(i:Nat)(ao:AO),H[i]?=some ao->∃a o,ad[i]?=some a/\h.get? a=some o/\OR cc hd ad ao o
 frm:∀p∈fr,∃sl,h.get? p.1=some {p.2 with slots:=sl}
 hid:∀p∈hd.objs cc,h.get? p.1=some p.2
 hok:hd.Ok cc
variable{cc:CC}{fr:List (Addr×Obj)}{hd:Hid}{ad:List Addr}{H:AH}{h h':Heap}
def HR.live(R:HR cc fr hd ad H h)(m:a∈ad++(fr.map (·.1)++(hd.objs cc).map (·.1))):∃o,h.get? a=some o:=by
 rcases Vs.mp m with m|m
 ·obtain⟨i,hi,e⟩:=List.mem_iff_getElem.mp m;have hi':i<H.length:=R.len▸hi;refine o6 (R.obj i H[i] (Vw hi')) fun a' o e1 e2 _=>?_;rw[Vw hi,e]at e1;(injection e1 with e1;subst e1);exact⟨o,e2⟩
 ·rcases Vs.mp m with m|m
  ·refine o7 a (Wj.mp m) fun p hp=>?_;refine o8 (R.frm p hp) fun sl e=>?_;exact⟨_,e⟩
  ·refine o7 a (Wj.mp m) fun p hp=>?_;exact⟨_,R.hid p hp⟩
def HR.grow(R:HR cc fr hd ad H h)(k:∀b o,h.get? b=some o->h'.get? b=some o):HR cc fr hd ad H h' where
 keep:=fun b o e=>k _ _ (R.keep b o e)
 len:=R.len
 nodup:=R.nodup
 new:=R.new
 obj:=fun i ao e=>by refine o6 (R.obj i ao e) fun a o e1 e2 r=>?_;exact i1 a o e1 (k _ _ e2) r
 frm:=fun p hp=>by refine o8 (R.frm p hp) fun sl e=>?_;exact i4 sl (k _ _ e)
 hid:=fun p hp=>k _ _ (R.hid p hp)
 hok:=R.hok
def HR.but(R:HR cc fr hd ad H h)(hL:L∉ad++(fr.map (·.1)++(hd.objs cc).map (·.1)))(hG:cc.G.get? L=none)(k:Wa L h h'):HR cc fr hd ad H h' where
 keep:=fun b o e=>k _ _ (fun q=>by rw[q,hG]at e;injection e) (R.keep b o e)
 len:=R.len
 nodup:=R.nodup
 new:=R.new
 obj:=fun i ao e=>by
  refine o6 (R.obj i ao e) fun a o e1 e2 r=>?_;exact i1 a o e1 (k _ _ (fun q=>hL (Vk _ (q▸VP e1))) e2) r
 frm:=fun p hp=>by
  refine o8 (R.frm p hp) fun sl e=>?_;exact i4 sl (k _ _ (fun q=>hL (q▸Vh _ (Vk _ (Vz hp)))) e)
 hid:=fun p hp=>k _ _ (fun q=>hL (q▸Vh _ (Vh _ (Vz hp)))) (R.hid p hp)
 hok:=R.hok
def iB{l r:List Addr}{a:Addr}(h:(l++r).Nodup)(ha:a∉l++r):((l++[a])++r).Nodup:=by
 have:((l++[a])++r).Perm (a::(l++r)):=by
  rw[Wn];exact Xh
 exact this.nodup_iff.mpr (VQ.mpr ⟨ha,h⟩)
def mem_snoc{l r:List Addr}{a b:Addr}(h:b∈(l++[a])++r):b=a\/b∈l++r:=by
 rcases Vs.mp h with h|h
 ·rcases Vs.mp h with h|h
  ·exact .inr (Vk _ h)
  ·exact .inl (V8.mp h)
 ·exact .inr (Vh _ h)
def HR.fresh(R:HR cc fr hd ad H h)(e:h.get? a=none):a∉ad++(fr.map (·.1)++(hd.objs cc).map (·.1)):=fun m=>by
 refine o8 (R.live m) fun o q=>?_;rw[e]at q;injection q
def HR.freshG(R:HR cc fr hd ad H h)(e:h.get? a=none):cc.G.get? a=none:=by
 induction q:cc.G.get? a using Option.casesOn with
 |none=>rfl
 |some o=>have:=R.keep _ _ q;rw[e]at this;injection this
def HR.alloc{ao:AO}(R:HR cc fr hd ad H h)(k:∀b o,h.get? b=some o->h'.get? b=some o)(ha:h.get? a=none)(e:h'.get? a=some o)
  (r:OR cc hd (ad++[a]) ao o):HR cc fr hd (ad++[a]) (H++[ao]) h':=by
 have R':=R.grow k;have hn:=R.fresh ha;refine⟨R'.keep,by rw[VH,VH,R.len];rfl,iB R.nodup hn,fun b hb=>?_,fun i x q=>?_,R'.frm,R'.hid,R'.hok⟩
 ·rcases mem_snoc hb with rfl|hb
  ·exact R.freshG ha
  ·exact R.new b hb
 ·by_cases hi:i<H.length
  ·rw[VF hi]at q;refine o6 (R'.obj i x q) fun b ob e1 e2 r'=>?_;exact i1 b ob (aX (VA ..) e1) e2 (r'.mono (.refl _) (VA ..))
  ·have hl:i=H.length:=by
    have:=(Vn.mp q).1;rw[VH,W9]at this;exact Ub this hi
   subst hl;rw[Vm (VB _),X_]at q;(injection q with q;subst q);refine i1 a o ?_ e r;rw[←R.len,Vm (VB _),X_];rfl
def r_{l r:List Addr}(h:(l++r).Nodup){i j:Nat}(hi:l[i]?=some a)(hj:l[j]?=some a):i=j:=by
 have hl:l.Nodup:=(VX.mp h).1;refine o8 (Vn.mp hi) fun h1 e1=>?_;refine o8 (Vn.mp hj) fun h2 e2=>?_;exact(List.getElem_inj hl).mp (e1.trans e2.symm)
def HR.upd{i:Nat}{ao:AO}(R:HR cc fr hd ad H h)(ea:ad[i]?=some a)(k:Wa a h h')(e:h'.get? a=some o)
  (r:OR cc hd ad ao o):HR cc fr hd ad (H.set i ao) h':=by
 have ma:=VP ea;have hG:=R.new a (Vk _ ma);have hnd:=VX.mp R.nodup;refine⟨fun b o e=>k _ _ (fun q=>by rw[q,hG]at e;injection e) (R.keep b o e),by rw[WB];exact R.len,R.nodup,R.new,fun j x q=>?_,fun p hp=>?_,fun p hp=>?_,R.hok⟩
 ·by_cases hj:i=j
  ·subst hj;have hi:i<H.length:=by
    have:=(Vn.mp q).1
    rwa [WB]at this
   rw[W0 hi]at q;(injection q with q;subst q);exact i1 a o ea e r
  ·rw[Xa hj]at q;refine o6 (R.obj j x q) fun b ob e1 e2 r'=>?_;exact i1 b ob e1 (k _ _ (fun z=>hj (r_ R.nodup ea (z▸e1))) e2) r'
 ·refine o8 (R.frm p hp) fun sl z=>?_;exact i4 sl (k _ _ (fun q=>hnd.2.2 a ma _ (Vk _ (Vz hp)) q.symm) z)
 ·exact k _ _ (fun q=>hnd.2.2 a ma _ (Vh _ (Vz hp)) q.symm) (R.hid p hp)
end
section
structure FC where
 env:Env
 cn:List Str
 cl:List Nat
 fr:List (Addr×Obj)
 hn:Bool
 hd0:Option Addr
def kb(o:Obj):Prop:=∃es ep,o.data=.dict es ep
def HX(envs:List Env)(own:Addr)(fr:List (Addr×Obj)):Prop:=
 ∀e∈envs,e.scope.kind≠.module/\∃a,e.frame=some a/\(a=own\/∃o,(a,o)∈fr/\kb o)
structure bx(c:FC)(A:VN)(k:Nat):Prop where
 room:A.depth+k<WC
 units:A.units+10*k<cLine
 frames:∃envs,A.frames=some envs/\HX envs c.env.locals c.fr
 hnd:A.handled=c.hd0.map Wo
 hn:c.hn=true->c.hd0=none
structure ay(c:FC):Prop where
 kind:c.env.scope.kind=.function
 globals:c.env.globals=mainGlobals
 builtins:c.env.builtins=W4
def dk(nm:List Str)(ad:List Addr)(loc:aM)(m:Str->Option Vq):Prop:=
 ∀(i:Nat) (v:AV),lk i loc=some v->∃x u,nm[i]?=some x/\m x=some u/\VR ad v u
def dk.mono{ad ad':List Addr}(h:ad<+:ad')(r:dk nm ad loc m):dk nm ad' loc m:=
 fun i v e=>let⟨x,u,a,b,d⟩:=r i v e;(i1 x u a b (d.mono h))
noncomputable abbrev tot(cc:CC)(fr:List (Addr×Obj))(hd:Hid)(ad:List Addr):List Addr:=ad++(fr.map (·.1)++(hd.objs cc).map (·.1))
structure Ga(cc:CC)(s:Vo):Prop where
 gens:s.gens=cc.gens
 drawn:s.drawn=cc.drawn
 os:s.os=cc.os
def jg(hd0:Option Addr)(ad:List Addr)(H:AH):Prop:=∀a0,hd0=some a0->∃i:Nat,ad[i]?=some a0/\H[i]?=some .exc
structure FS(cc:CC)(c:FC)(loc:aM)(H:AH)(ad:List Addr)(hd:Hid)(s:Vo):Prop where
 ns:∃m,s.heap.Ns c.env.locals m/\dk cc.T.nm ad loc m
 hr:HR cc c.fr hd ad H s.heap
 own:c.env.locals∉tot cc c.fr hd ad
 above:cc.G.objs.size<=c.env.locals
 cells:∀(j:Nat)(x:Str),c.cn[j]?=some x->(c.env.scope.names.lookup x=some .cell\/c.env.scope.names.lookup x=some .free)->
  ∃a i,c.env.cells.lookup x=some a/\c.cl[j]?=some i/\ad[i]?=some a
 hdl:jg c.hd0 ad H
 oth:Ga cc s
structure Tr(ad:List Addr)(H:AH)(hd:Hid)(ad':List Addr)(H':AH)(hd':Hid):Prop where
 ad:ad<+:ad'
 H:bB H H'
 hd:hd.le hd'
def bB.refl(H:AH):bB H H:=⟨VB _,fun _ _ e _=>e⟩
def bB.trans(x:bB a b)(y:bB b c):bB a c:=⟨V4 x.1 y.1,fun i o e m=>y.2 i o (x.2 i o e m) m⟩
def bB.snoc(H:AH)(l:AH):bB H (H++l):=⟨by rw[VH];exact Ie,fun i o e _=>by rw[VF (Vn.mp e).1];exact e⟩
def bB.set(e:H[i]?=some o)(h:¬o.imm):bB H (H.set i o'):=⟨by rw[WB];exact VB _,fun j x q m=>by
 by_cases hj:i=j
 ·subst hj;rw[e]at q;(injection q with q;subst q);exact absurd m h
 ·rw[Xa hj];exact q⟩
def Tr.refl(ad:List Addr)(H:AH)(hd:Hid):Tr ad H hd ad H hd:=⟨Yg _,.refl _,.refl _⟩
def Tr.trans{ad H hd ad' H' hd' ad'' H'' hd''}(x:Tr ad H hd ad' H' hd')(y:Tr ad' H' hd' ad'' H'' hd''):Tr ad H hd ad'' H'' hd'':=
 ⟨x.ad.trans y.ad,x.H.trans y.H,x.hd.trans y.hd⟩
def jg.tr{ad H hd ad' H' hd'}(x:jg hd0 ad H)(t:Tr ad H hd ad' H' hd'):jg hd0 ad' H':=fun a0 e=>by
 refine o1 (x a0 e) fun i a b=>?_;exact i0 i (aX t.ad a) (t.H.2 i _ b trivial)
variable{cc:CC}{c:FC}{loc:aM}{H:AH}{ad:List Addr}{hd:Hid}{s:Vo}{h':Heap}
def FS.fr(F:FS cc c loc H ad hd s):∃m,Fr cc.G c.env.locals s.heap m/\dk cc.T.nm ad loc m:=by
 refine o1 F.ns fun m a b=>?_;exact i0 m ⟨a,F.hr.keep,F.above⟩ b
def FS.ownG(F:FS cc c loc H ad hd s):cc.G.get? c.env.locals=none:=by
 induction q:cc.G.get? c.env.locals using Option.casesOn with
 |none=>rfl
 |some o=>exact absurd (Wb q) (W8.mpr F.above)
def FS.toks(F:FS cc c loc H ad hd s):FS cc c loc H ad hd {s with toks:=k}:=⟨F.ns,F.hr,F.own,F.above,F.cells,F.hdl,⟨F.oth.gens,F.oth.drawn,F.oth.os⟩⟩
def FS.grow(F:FS cc c loc H ad hd s)(hk:∀b o,s.heap.get? b=some o->h'.get? b=some o):FS cc c loc H ad hd {s with heap:=h',toks:=k}:=by
 refine o1 F.ns fun m a b=>?_;exact⟨(i0 m (a.keeps hk) b),F.hr.grow hk,F.own,F.above,F.cells,F.hdl,⟨F.oth.gens,F.oth.drawn,F.oth.os⟩⟩
def FS.alloc(F:FS cc c loc H ad hd s)(hk:∀b o,s.heap.get? b=some o->h'.get? b=some o)(ha:s.heap.get? a=none)(e:h'.get? a=some o)
  (r:OR cc hd (ad++[a]) ao o):FS cc c loc (H++[ao]) (ad++[a]) hd {s with heap:=h',toks:=k}:=by
 refine o1 F.ns fun m n b=>?_;have hL:c.env.locals≠a:=fun q=>by
  refine o9 n fun oo _ _ ho _=>?_;rw[q,ha]at ho;injection ho
 refine⟨(i0 m (n.keeps hk) (b.mono (VA ..))),F.hr.alloc hk ha e r,fun z=>?_,F.above,fun j x q y=>?_,F.hdl.tr (hd:=hd) (hd':=hd) ⟨VA ..,.snoc _ _,.refl _⟩,⟨F.oth.gens,F.oth.drawn,F.oth.os⟩⟩
 ·rcases mem_snoc z with z|z
  ·exact hL z
  ·exact F.own z
 ·refine o6 (F.cells j x q y) fun a' i e1 e2 e3=>?_;exact i1 a' i e1 e2 (aX (VA ..) e3)
def Tr.snoc(ad:List Addr)(H:AH)(hd:Hid)(a:Addr)(ao:AO):Tr ad H hd (ad++[a]) (H++[ao]) hd:=⟨VA ..,.snoc _ _,.refl _⟩
def FS.upd(F:FS cc c loc H ad hd s)(ea:ad[i]?=some a)(eo:H[i]?=some ao₀)(hi:¬ao₀.imm)(hk:Wa a s.heap h')(e:h'.get? a=some o)
  (r:OR cc hd ad ao o):FS cc c loc (H.set i ao) ad hd {s with heap:=h',toks:=k}:=by
 refine o1 F.ns fun m n b=>?_;have hL:c.env.locals≠a:=fun q=>F.own (q▸Vk _ (VP ea));refine⟨(i0 m (n.extBut hk hL) b),F.hr.upd ea hk e r,F.own,F.above,F.cells,F.hdl.tr (hd:=hd) (hd':=hd) ⟨Yg _,.set eo hi,.refl _⟩,⟨F.oth.gens,F.oth.drawn,F.oth.os⟩⟩
def Tr.set(eo:H[i]?=some ao₀)(hi:¬ao₀.imm):Tr ad H hd ad (H.set i ao) hd:=⟨Yg _,.set eo hi,.refl _⟩
structure cD(cc:CC)(fr:List (Addr×Obj))(own:Option Addr)(hd:Hid)(ad:List Addr)(a:Addr):Prop where
 g:cc.G.get? a=none
 t:a∉tot cc fr hd ad
 o:own≠some a
def yM(cc:CC)(hn:Bool)(fr:List (Addr×Obj))(own:Option Addr)(hd:Hid)(ad:List Addr)(ea:Addr)(h:Heap):Prop:=
 ∃oe vs,h.get? ea=some oe/\oe.cls=.ref cc.lua/\oe.data=.fields vs/\6<=vs.size/\(hn=true->vs[2]?=some .none)/\cD cc fr own hd ad ea/\
  (vs[1]?=some .none\/∃T oT ts,vs[1]?=some (.ref T)/\T≠ea/\h.get? T=some oT/\oT.data=.fields ts/\3<ts.size/\cD cc fr own hd ad T)
abbrev d_:=Vq->Vo->Prop
def KV(cc:CC)(c:FC)(loc:aM)(H:AH)(ad:List Addr)(hd:Hid)(Q:QE)(Qr:Vq->Vo->Prop):Prop:=
 ∀v H' ad' hd' s' x,Tr ad H hd ad' H' hd'->FS cc c loc H' ad' hd' s'->VR ad' v x->Q v H'->Qr x s'
def KB(cc:CC)(c:FC)(loc:aM)(H:AH)(ad:List Addr)(hd:Hid)(Q:Bool->AH->Prop)(Qr:Bool->Vo->Prop):Prop:=
 ∀v H' ad' hd' s',Tr ad H hd ad' H' hd'->FS cc c loc H' ad' hd' s'->Q v H'->Qr v s'
def KE(cc:CC)(c:FC)(loc:aM)(H:AH)(ad:List Addr)(hd:Hid)(E:AH->Prop)(Er:d_):Prop:=
 ∀H' ad' hd' s' ea,Tr ad H hd ad' H' hd'->FS cc c loc H' ad' hd' s'->yM cc c.hn c.fr (some c.env.locals) hd' ad' ea s'.heap->E H'->Er (.ref ea) s'
noncomputable def KL(cc:CC)(c:FC)(loc:aM)(H:AH)(ad:List Addr)(hd:Hid)(Q:List AV->AH->Prop)(Qr:List Vq->Vo->Prop):Prop:=
 ∀v H' ad' hd' s' x,Tr ad H hd ad' H' hd'->FS cc c loc H' ad' hd' s'->aw (VR ad') v x->Q v H'->Qr x s'
def aC(cc:CC)(c:FC)(A:VN)(loc:aM)(t:Sem Vq)(D:AH->QE->(AH->Prop)->Prop):Prop:=
 ∀(H:AH) (ad:List Addr) (hd:Hid) (s:Vo) (Q:QE) (E:AH->Prop) (Qr:Vq->Vo->Prop) (Er:d_),
  FS cc c loc H ad hd s->D H Q E->
  KV cc c loc H ad hd Q Qr->
  KE cc c loc H ad hd E Er->
  Vy (Vt cc.prog cc.w) A t Qr Er s
def bZ(cc:CC)(c:FC)(A:VN)(loc:aM)(t:Sem Bool)(D:AH->(Bool->AH->Prop)->(AH->Prop)->Prop):Prop:=
 ∀(H:AH) (ad:List Addr) (hd:Hid) (s:Vo) (Q:Bool->AH->Prop) (E:AH->Prop) (Qr:Bool->Vo->Prop) (Er:d_),
  FS cc c loc H ad hd s->D H Q E->
  KB cc c loc H ad hd Q Qr->
  KE cc c loc H ad hd E Er->
  Vy (Vt cc.prog cc.w) A t Qr Er s
def ji(cc:CC)(c:FC)(A:VN)(loc:aM)(t:Sem (List Vq))(D:AH->(List AV->AH->Prop)->(AH->Prop)->Prop):Prop:=
 ∀(H:AH) (ad:List Addr) (hd:Hid) (s:Vo) (Q:List AV->AH->Prop) (E:AH->Prop) (Qr:List Vq->Vo->Prop) (Er:d_),
  FS cc c loc H ad hd s->D H Q E->
  KL cc c loc H ad hd Q Qr->
  KE cc c loc H ad hd E Er->
  Vy (Vt cc.prog cc.w) A t Qr Er s
structure g_(cc:CC)(k:Nat)(hn:Bool)(hd0:Option Addr)(A:VN)(fr:List (Addr×Obj))(H:AH)(ad:List Addr)(hd:Hid)(s:Vo):Prop where
 room:A.depth+k<WC
 units:A.units+10*k<cLine
 frames:∃envs,A.frames=some envs/\∀e∈envs,e.scope.kind≠.module/\∃a o,e.frame=some a/\(a,o)∈fr/\kb o
 hnd:A.handled=hd0.map Wo
 hn:hn=true->hd0=none
 hr:HR cc fr hd ad H s.heap
 hdl:jg hd0 ad H
 oth:Ga cc s
 sz:cc.G.objs.size<=s.heap.objs.size
noncomputable def T8(cc:CC)(fr:List (Addr×Obj))(H:AH)(ad:List Addr)(hd:Hid)(Q:QE)(R:Xu->Vo->Prop):Prop:=
 ∀v H' ad' hd' s' x,Tr ad H hd ad' H' hd'->HR cc fr hd' ad' H' s'.heap->Ga cc s'->VR ad' v x->Q v H'->R (.ok (.ret x)) s'
noncomputable def T9(cc:CC)(hn:Bool)(fr:List (Addr×Obj))(H:AH)(ad:List Addr)(hd:Hid)(E:AH->Prop)(R:Xu->Vo->Prop):Prop:=
 ∀H' ad' hd' s' ea,Tr ad H hd ad' H' hd'->HR cc fr hd' ad' H' s'.heap->Ga cc s'->yM cc hn fr none hd' ad' ea s'.heap->E H'->R (.error (.ref ea)) s'
def aH(cc:CC)(k:Nat)(hn:Bool)(f:Vq)(args:List AV)(H:AH)(ad:List Addr)(hd:Hid)(Q:QE)(E:AH->Prop):Prop:=
 ∀(hd0:Option Addr) (A:VN) (fr:List (Addr×Obj)) (s:Vo) (vals:List Vq) (R:Xu->Vo->Prop),
  g_ cc k hn hd0 A fr H ad hd s->aw (VR ad) args vals->
  T8 cc fr H ad hd Q R->
  T9 cc hn fr H ad hd E R->
  Yj (Vt cc.prog cc.w) A (.call f ⟨vals,[]⟩) R s
structure az(cc:CC)(Γ:cM):Prop where
 fn:∀f k hn args H ad hd Q E,Γ.fn f k hn args H Q E->aH cc k hn (.ref f) args H ad hd Q E
 clos:∀d cl k hn args H ad hd Q E (i:Nat) a,H[i]?=some (.clos d cl)->ad[i]?=some a->Γ.clos d cl k hn args H Q E->aH cc k hn (.ref a) args H ad hd Q E
 gl:∀a xs,Γ.gl a=some xs->∃vs n,cc.G.get? a=some (W.listOf vs n)/\∀ad,aw (VR ad) xs vs.toList
def FS.into(F:FS cc c loc H ad hd s):∃oL,kb oL/\(∀h sl,h.get? c.env.locals=some {oL with slots:=sl}->∀ad' hd' H' s',ad<+:ad'->jg c.hd0 ad' H'->s'.heap=h->HR cc ((c.env.locals,oL)::c.fr) hd' ad' H' h->Ga cc s'->
   FS cc c loc H' ad' hd' s')/\HR cc ((c.env.locals,oL)::c.fr) hd ad H s.heap:=by
 refine RA F.ns fun m oL es ep hL hLd r b=>?_;have perm:∀(hd':Hid) (ad':List Addr),(tot cc ((c.env.locals,oL)::c.fr) hd' ad').Perm (c.env.locals::tot cc c.fr hd' ad'):=fun hd' ad'=>by
  show(ad'++(c.env.locals::(c.fr.map (·.1)++_))).Perm _;exact Xh
 refine⟨oL,(i5 es ep hLd),fun h sl e ad' hd' H' s' pf hx hs R oth=>?_,F.hr.keep,F.hr.len,(perm hd ad).nodup_iff.mpr (VQ.mpr ⟨F.own,F.hr.nodup⟩),fun a ha=>?_,F.hr.obj,fun p hp=>?_,F.hr.hid,F.hr.hok⟩
 ·subst hs;have hnd:=VQ.mp ((perm hd' ad').nodup_iff.mp R.nodup);refine⟨(i0 m ⟨_,es,ep,e,hLd,r⟩ (b.mono pf)),⟨R.keep,R.len,hnd.2,fun a ha=>R.new a ((perm hd' ad').mem_iff.mpr (Vj _ ha)),R.obj,fun p hp=>R.frm p (Vj _ hp),R.hid,R.hok⟩,hnd.1,F.above,fun j x q y=>?_,hx,oth⟩;refine o6 (F.cells j x q y) fun a' i e1 e2 e3=>?_;exact i1 a' i e1 e2 (aX pf e3)
 ·rcases Vv.mp ((perm hd ad).mem_iff.mp ha)with rfl|ha
  ·exact F.ownG
  ·exact F.hr.new a ha
 ·rcases Vv.mp hp with rfl|hp
  ·exact i4 oL.slots hL
  ·exact F.hr.frm p hp
end
section
def T7(cc:CC)(x:Str):GV->Prop
 |.int i=>∃t,cc.mg x=some (.int i t)
 |.fn a=>cc.mg x=some (.ref a)/\Zp cc.K (.ref a)=true
 |.cls=>cc.mg x=some (.ref cc.cls)/\Zp cc.K (.ref cc.cls)=true
 |.obj a=>cc.mg x=some (.ref a)
structure aO(cc:CC):Prop where
 inG:cc.K.In cc.G
 rd:TopRead cc.p cc.loose cc.mg cc.mb cc.G
 an:cc.T.an.Nodup
 nm:cc.T.nm.Nodup
 globs:∀x g,cc.T.gl.lookup x=some g->T7 cc x g
 bi:∀x∈[("len",Value.builtin "len"),("bytes",.type "bytes"),("bytearray",.type "bytearray"),("isinstance",.builtin "isinstance"),("range",.type "range")],cc.mg (Vg x.1)=none/\cc.mb (Vg x.1)=some x.2
 plain:∀x,plainGet cc.K cc.cls x=true
 hasD:hasDictIn cc.K cc.cls=true
 attr:∀(i:Nat) x,cc.T.an[i]?=some x->i<8->(∃a,findIn cc.K (.ref cc.cls) x=some a/\noGet cc.K a=true)/\takerIn cc.K cc.cls x=some none
 seta:findIn cc.K (.ref cc.cls) (Vg "__setattr__")=some (some (.builtin "object.__setattr__"))
 over:plainOver cc.K cc.cls=true
 meth:∀x f,cc.T.mt.lookup x=some f->findIn cc.K (.ref cc.cls) x=some (some (.ref f))/\isFn cc.K (.ref f)=true/\Zp cc.K (.ref f)=true/\∀i:Nat,i<8->cc.T.an[i]?≠some x
def aN(sc sc':VZ):Prop:=∀x,sc'.names.lookup x=sc.names.lookup x\/(sc.names.lookup x=some .free/\sc'.names.lookup x=some .cell)
def aN.refl(sc:VZ):aN sc sc:=fun _=>.inl rfl
variable{cc:CC}{c:FC}{A:VN}{Γ:cM}{k:Nat}{loc:aM}{sc:VZ}{H:AH}{ad:List Addr}{hd:Hid}{s:Vo}
theorem pos?_get:∀{l:List Str}{i:Nat},pos? x l=some i->l[i]?=some x
 |[],_,e=>by injection e
 |y::r,i,e=>by
  unfold pos? at e
  split at e
  ·rename_i q;(injection e with e;subst e);rw[beq_iff_eq.mp q];rfl
  ·refine o7 i (VK.mp e) fun j hj=>?_;exact pos?_get (l:=r) hj
def FS.glob(F:FS cc c loc H ad hd s)(O:aO cc)(e:ay c):s.heap.Ns c.env.globals cc.mg/\s.heap.Ns c.env.builtins cc.mb:=
 ⟨e.globals▸O.rd.g.keeps F.hr.keep,e.builtins▸O.rd.b.keeps F.hr.keep⟩
def Kj
  (h:∀H ad hd s Q Qr Er,FS cc c loc H ad hd s->D H Q (fun _=>True)->(∀v x tk,VR ad v x->Q v H->Qr x {s with toks:=tk})->Vy (Vt cc.prog cc.w) A t Qr Er s)
  (hE:∀H Q E,D H Q E->D H Q fun _=>True):aC cc c A loc t D:=by
 intro H ad hd s Q E Qr Er F d q e;exact h H ad hd s Q Qr Er F (hE _ _ _ d) fun v x tk r z=>q v H ad hd _ x (.refl _ _ _) F.toks r z
def AL(h:¬(a||b)=true):a=false/\b=false:=by
 induction a using Vu<;>induction b using Vu<;>simp_all
def iE:aC cc c A loc t (ae Γ c.cl k c.hn loc .bad):=by
 intro H ad hd s Q E Qr Er F d;exact Xn d
def nL{α:Type}{P:α->Prop}{p:Prop}[Decidable p]{a b:α}(h1:p->P a)(h2:¬p->P b):P (if p then a else b):=by
 by_cases h:p
 ·rw[if_pos h];exact h1 h
 ·rw[if_neg h];exact h2 h
def Qm{α:Type}{p:Prop}[Decidable p]{a b:α}(h:(if p then some a else none)=some b):p/\a=b:=by
 by_cases z:p
 ·rw[if_pos z]at h;exact⟨z,XE h⟩
 ·rw[if_neg z]at h;injection h
def r9{cn:List Str}{P:IE->Prop}(hb:P .bad)
  (hl:(x==("__debug__":Str))=false->sc.names.lookup x=some .local->∀i,pos? x T.nm=some i->P (.loc i))
  (hc:(x==("__debug__":Str))=false->(x==("__classdict__":Str))=false->(sc.names.lookup x=some .cell\/sc.names.lookup x=some .free)->∀j,pos? x cn=some j->P (.cel j))
  (hg:(x==("__debug__":Str))=false->sc.names.lookup x=some .globalImplicit->(∀i,T.gl.lookup x=some (.int i)->P (.int i))/\∀a,T.gl.lookup x=some (.obj a)->P (.glob a)):P (r8 T sc cn x):=by
 refine nL (fun _=>hb) fun hx=>?_;simp only[Ys,not_or,Xj]at hx;refine Ur hx fun h1 h2 _=>?_;induction hn:sc.names.lookup x using Option.casesOn with
 |none=>exact hb
 |some nk=>
  have cel:(sc.names.lookup x=some .cell\/sc.names.lookup x=some .free)->P (match pos? x cn with|some j=>.cel j|none=>.bad):=fun hk=>by
   induction hp:pos? x cn using Option.casesOn with
   |none=>exact hb
   |some j=>exact hc h1 h2 hk j hp
  induction nk using ZC with
  |«local»=>
   show P (match pos? x T.nm with|some i=>.loc i|none=>.bad);induction hp:pos? x T.nm using Option.casesOn with
   |none=>exact hb
   |some i=>exact hl h1 hn i hp
  |cell=>exact cel (.inl hn)
  |free=>exact cel (.inr hn)
  |globalImplicit=>
   refine kY (hg h1 hn) fun g1 g2=>?_;show P (match T.gl.lookup x with|some (.int i)=>.int i|some (.obj a)=>.glob a|_=>.bad);induction hq:T.gl.lookup x using Option.casesOn with
   |none=>exact hb
   |some g=>
    induction g using GV.casesOn with
    |int i=>exact g1 i hq
    |obj a=>exact g2 a hq
    |_=>exact hb
  |_=>exact hb
def qO(O:aO cc)(eo:ay c)(S:aN sc c.env.scope):aC cc c A loc (eval (.Name x pos) c.env) (ae Γ c.cl k c.hn loc (r8 cc.T sc c.cn x)):=by
 refine r9 (P:=fun i=>aC cc c A loc (eval (.Name x pos) c.env) (ae Γ c.cl k c.hn loc i)) iE (fun hx1 hl i hi=>?_) (fun hx1 hx2 hl j hj=>?_) fun hx1 hl=>?_
 ·have hl':c.env.scope.names.lookup x=some .local:=by
   rcases S x with h|h
   ·rw[h];exact hl
   ·rw[hl]at h;cases h.1
  intro H ad hd s Q E Qr Er F d q e;rw[nA]at d;induction hv:lk i loc using Option.casesOn with
  |none=>rw[hv]at d;exact d.elim
  |some v=>
   rw[hv]at d;refine o1 F.ns fun m n L=>?_;refine o6 (L i v hv) fun x' u e1 e2 r=>?_;rw[pos?_get hi]at e1;(injection e1 with e1;subst e1);exact wpAny_Name (YG eo.kind hl' n e2 (q v H ad hd s u (.refl _ _ _) F r d)) hx1
 ·have hk:c.env.scope.names.lookup x=some .cell\/c.env.scope.names.lookup x=some .free:=by
   rcases S x with h|h
   ·rw[h];exact hl
   ·exact .inl h.2
  intro H ad hd s Q E Qr Er F d q e;rw[wq]at d;refine o6 (F.cells j x (pos?_get hj) hk) fun a i e1 e2 e3=>?_;rw[e2]at d;dsimp only at d;induction hv:H[i]? using Option.casesOn with
  |none=>rw[hv]at d;exact d.elim
  |some ao=>
   rw[hv]at d;induction ao using AO.casesOn with
   |cell v=>
    induction v using Option.casesOn with
    |none=>exact d.elim
    |some v=>
     refine QJ (F.hr.obj i _ hv) fun a' o e4 e5 u ho r=>?_;rw[e3]at e4;(injection e4 with e4;subst e4);induction u using Option.casesOn with
     |none=>exact r.elim
     |some y=>
      have ic:s.heap.IsCell a (some y):=(i0 _ e5 ho)
      refine wpAny_Name ?_ hx1;rcases hk with hk|hk
      ·exact wpAny_loadName_cell eo.kind hk e1 ic (q v H ad hd s y (.refl _ _ _) F r d)
      ·exact wpAny_loadName_free eo.kind hk e1 ic (q v H ad hd s y (.refl _ _ _) F r d) hx2
   |_=>exact d.elim
 ·have hl':c.env.scope.names.lookup x=some .globalImplicit:=by
   rcases S x with h|h
   ·rw[h];exact hl
   ·rw[hl]at h;cases h.1
  have main:∀{v:Vq} {av:AV},cc.mg x=some v->(∀ad,VR ad av v)->∀{i:IE},(∀H Q E,ae Γ c.cl k c.hn loc i H Q E->Q av H)->aC cc c A loc (eval (.Name x pos) c.env) (ae Γ c.cl k c.hn loc i):=by
   intro v av hv r i hi H ad hd s Q E Qr Er F d q e;exact WX eo.kind hl' (XI (F.glob O eo).1 hv (q av H ad hd s v (.refl _ _ _) F (r _) (hi _ _ _ d))) hx1
  refine⟨fun i hg=>?_,fun a hg=>main (av:=.prog a) (O.globs _ _ hg) (fun ad=>rfl) (i:=.glob a) fun H Q E d=>d⟩;refine o8 (O.globs _ _ hg) fun t ht=>?_;exact main (av:=.int i) ht (fun ad=>(i4 t rfl)) (i:=.int i) fun H Q E d=>d
end
section
variable{cc:CC}{c:FC}{A:VN}{Γ:cM}{k:Nat}{loc:aM}{sc:VZ}{H:AH}{ad:List Addr}{hd:Hid}{s:Vo}{h h':Heap}{fr:List (Addr×Obj)}
def HR.keepN(R:HR cc fr hd ad H h)(kG:∀b o,cc.G.get? b=some o->h'.get? b=some o)(kT:∀a∈tot cc fr hd ad,∀o,h.get? a=some o->h'.get? a=some o):HR cc fr hd ad H h' where
 keep:=kG
 len:=R.len
 nodup:=R.nodup
 new:=R.new
 obj:=fun i ao e=>by refine o6 (R.obj i ao e) fun a o e1 e2 r=>?_;exact i1 a o e1 (kT _ (Vk _ (VP e1)) _ e2) r
 frm:=fun p hp=>by refine o8 (R.frm p hp) fun sl e=>?_;exact i4 sl (kT _ (Vh _ (Vk _ (Vz hp))) _ e)
 hid:=fun p hp=>kT _ (Vh _ (Vh _ (Vz hp))) _ (R.hid p hp)
 hok:=R.hok
def HR.allocN(R:HR cc fr hd ad H h)(kG:∀b o,cc.G.get? b=some o->h'.get? b=some o)(kT:∀a∈tot cc fr hd ad,∀o,h.get? a=some o->h'.get? a=some o)
  (ha:a∉tot cc fr hd ad)(ga:cc.G.get? a=none)(e:h'.get? a=some o)(r:OR cc hd (ad++[a]) ao o):HR cc fr hd (ad++[a]) (H++[ao]) h':=by
 have R':=R.keepN kG kT;refine⟨R'.keep,by rw[VH,VH,R.len];rfl,iB R.nodup ha,fun b hb=>?_,fun i x q=>?_,R'.frm,R'.hid,R'.hok⟩
 ·rcases mem_snoc hb with rfl|hb
  ·exact ga
  ·exact R.new b hb
 ·by_cases hi:i<H.length
  ·rw[VF hi]at q;refine o6 (R'.obj i x q) fun b ob e1 e2 r'=>?_;exact i1 b ob (aX (VA ..) e1) e2 (r'.mono (.refl _) (VA ..))
  ·have hl:i=H.length:=by
    have:=(Vn.mp q).1;rw[VH,W9]at this;exact Ub this hi
   subst hl;rw[Vm (VB _),X_]at q;(injection q with q;subst q);refine i1 a o ?_ e r;rw[←R.len,Vm (VB _),X_];rfl
def HR.updN{i:Nat}{ao:AO}{o:Obj}{a:Addr}(R:HR cc fr hd ad H h)(ea:ad[i]?=some a)(kG:∀b o,cc.G.get? b=some o->h'.get? b=some o)
  (kT:∀b∈tot cc fr hd ad,b≠a->∀o,h.get? b=some o->h'.get? b=some o)(e:h'.get? a=some o)(r:OR cc hd ad ao o):HR cc fr hd ad (H.set i ao) h':=by
 have ma:=VP ea;have hnd:=VX.mp R.nodup;refine⟨kG,by rw[WB];exact R.len,R.nodup,R.new,fun j x q=>?_,fun p hp=>?_,fun p hp=>?_,R.hok⟩
 ·by_cases hj:i=j
  ·subst hj;have hi:i<H.length:=by
    have:=(Vn.mp q).1
    rwa [WB]at this
   rw[W0 hi]at q;(injection q with q;subst q);exact i1 a o ea e r
  ·rw[Xa hj]at q;refine o6 (R.obj j x q) fun b ob e1 e2 r'=>?_;exact i1 b ob e1 (kT _ (Vk _ (VP e1)) (fun z=>hj (r_ R.nodup ea (z▸e1))) _ e2) r'
 ·refine o8 (R.frm p hp) fun sl z=>?_;exact i4 sl (kT _ (Vh _ (Vk _ (Vz hp))) (fun q=>hnd.2.2 a ma _ (Vk _ (Vz hp)) q.symm) _ z)
 ·exact kT _ (Vh _ (Vh _ (Vz hp))) (fun q=>hnd.2.2 a ma _ (Vh _ (Vz hp)) q.symm) _ (R.hid p hp)
def FS.keepN(F:FS cc c loc H ad hd s)(F':Fr cc.G c.env.locals h' m)(l:dk cc.T.nm ad loc m)(kT:∀a∈tot cc c.fr hd ad,∀o,s.heap.get? a=some o->h'.get? a=some o):
  FS cc c loc H ad hd {s with heap:=h',toks:=tk}:=
 ⟨(i0 m F'.ns l),F.hr.keepN F'.keep kT,F.own,F.above,F.cells,F.hdl,⟨F.oth.gens,F.oth.drawn,F.oth.os⟩⟩
def FS.allocN(F:FS cc c loc H ad hd s)(F':Fr cc.G c.env.locals h' m)(l:dk cc.T.nm ad loc m)
  (kT:∀a∈tot cc c.fr hd ad,∀o,s.heap.get? a=some o->h'.get? a=some o)(ha:a∉tot cc c.fr hd ad)(ga:cc.G.get? a=none)(aL:a≠c.env.locals)(e:h'.get? a=some o)(r:OR cc hd (ad++[a]) ao o):
  FS cc c loc (H++[ao]) (ad++[a]) hd {s with heap:=h',toks:=tk}:=by
 refine⟨(i0 m F'.ns (l.mono (VA ..))),F.hr.allocN F'.keep kT ha ga e r,fun z=>?_,F.above,fun j x q y=>?_,F.hdl.tr (hd:=hd) (hd':=hd) ⟨VA ..,.snoc _ _,.refl _⟩,⟨F.oth.gens,F.oth.drawn,F.oth.os⟩⟩
 ·rcases mem_snoc z with z|z
  ·exact aL z.symm
  ·exact F.own z
 ·refine o6 (F.cells j x q y) fun a' i e1 e2 e3=>?_;exact i1 a' i e1 e2 (aX (VA ..) e3)
def FS.updN(F:FS cc c loc H ad hd s)(F':Fr cc.G c.env.locals h' m)(l:dk cc.T.nm ad loc m)(ea:ad[i]?=some a)(eo:H[i]?=some ao₀)(hi:¬ao₀.imm)
  (kT:∀b∈tot cc c.fr hd ad,b≠a->∀o,s.heap.get? b=some o->h'.get? b=some o)(e:h'.get? a=some o)(r:OR cc hd ad ao o):FS cc c loc (H.set i ao) ad hd {s with heap:=h',toks:=tk}:=
 ⟨(i0 m F'.ns l),F.hr.updN ea F'.keep kT e r,F.own,F.above,F.cells,F.hdl.tr (hd:=hd) (hd':=hd) ⟨Yg _,.set eo hi,.refl _⟩,⟨F.oth.gens,F.oth.drawn,F.oth.os⟩⟩
noncomputable def trk(h:Heap)(l:List Addr):List (Addr×Obj):=l.filterMap fun a=>(h.get? a).map fun o=>(a,o)
def ix:p∈trk h l↔p.1∈l/\h.get? p.1=some p.2:=by
 unfold trk;rw[List.mem_filterMap];constructor
 ·rintro⟨a,ha,e⟩;refine o7 p (VK.mp e) fun o ho=>?_;exact⟨ha,ho⟩
 ·rintro⟨ha,e⟩;exact i0 p.1 ha (by rw[e];rfl)
def FS.news(F:FS cc c loc H ad hd s):News cc.G c.env.locals s.heap (trk s.heap (tot cc c.fr hd ad)):=fun p hp=>by
 refine kY (ix.mp hp) fun a b=>?_;exact⟨b,fun q=>F.own (q▸a),F.hr.new _ a⟩
def News.kT(N:News cc.G L h' (trk h l)):∀a∈l,∀o,h.get? a=some o->h'.get? a=some o:=
 fun a ha o e=>(N (a,o) (ix.mpr ⟨ha,e⟩)).1
def News.of_cons(N:News G L h' (p::l)):News G L h' l:=fun q hq=>N q (Vj _ hq)
def FS.made(F:FS cc c loc H ad hd s)(F':Fr cc.G c.env.locals h' m)(l:dk cc.T.nm ad loc m)
  (N:News cc.G c.env.locals h' ((a,o)::trk s.heap (tot cc c.fr hd ad))) (hlt:∀p∈trk s.heap (tot cc c.fr hd ad),p.1<a)(r:OR cc hd (ad++[a]) ao o):
  FS cc c loc (H++[ao]) (ad++[a]) hd {s with heap:=h',toks:=tk}:=by
 refine qX (N _ (Vl ..)) fun e aL ga=>?_;refine F.allocN F' l (News.kT (News.of_cons N)) (fun z=>?_) ga aL e r;refine o8 (F.hr.live z) fun o' e'=>?_;exact WQ _ (hlt (a,o') (ix.mpr ⟨z,e'⟩))
theorem yI:∀{l:List (Addr×Obj)},(d,o)∈l->(l.map (·.1)).Nodup->Upd d o o' l (l.map fun p=>if p.1=d then(d,o')else p)
 |[],m,_=>nomatch m
 |p::r,m,n=>by
  rw[VL,VQ]at n;rcases Vv.mp m with q|m
  ·subst q;have hr:∀p∈r,p.1≠d:=fun p hp q=>n.1 (by have z:=Vz (f:=Wr) hp;rw[q]at z;exact z);have:(r.map fun p=>if p.1=d then(d,o')else p)=r:=by
    conv=>rhs;rw[←List.map_id r]
    exact List.map_congr_left fun p hp=>by rw[if_neg (hr p hp)];rfl
   rw[VL,if_pos rfl,this];exact .head hr
  ·have hp:p.1≠d:=fun q=>n.1 (q▸Vz (f:=Wr) m);rw[VL,if_neg hp];exact .tail hp (yI m n.2)
def z0(n:l.Nodup):((trk h l).map (·.1)).Nodup:=by
 have:((trk h l).map (·.1)).Sublist l:=by
  clear n;induction l with
  |nil=>exact .slnil
  |cons a r ih=>
   unfold trk;rw[List.filterMap_cons];induction h.get? a using Option.casesOn with
   |none=>exact .cons _ ih
   |some o=>exact .cons_cons _ ih
 exact this.nodup n
end
section
variable{cc:CC}{c:FC}{A:VN}{Γ:cM}{k:Nat}{loc:aM}{sc:VZ}{H:AH}{ad:List Addr}{hd:Hid}{s:Vo}{h h':Heap}{fr:List (Addr×Obj)}
variable{H1:AH}{ad1:List Addr}{hd1:Hid}{Q:QE}{QB:Bool->AH->Prop}{E:AH->Prop}{Qr:Vq->Vo->Prop}{QBr:Bool->Vo->Prop}{Er:d_}
def KV.tr(K:KV cc c loc H ad hd Q Qr)(T:Tr ad H hd ad1 H1 hd1):KV cc c loc H1 ad1 hd1 Q Qr:=fun v H' ad' hd' s' x T'=>K v H' ad' hd' s' x (T.trans T')
def KB.tr(K:KB cc c loc H ad hd QB QBr)(T:Tr ad H hd ad1 H1 hd1):KB cc c loc H1 ad1 hd1 QB QBr:=fun v H' ad' hd' s' T'=>K v H' ad' hd' s' (T.trans T')
def KE.tr(K:KE cc c loc H ad hd E Er)(T:Tr ad H hd ad1 H1 hd1):KE cc c loc H1 ad1 hd1 E Er:=fun H' ad' hd' s' ea T'=>K H' ad' hd' s' ea (T.trans T')
def KV.now(K:KV cc c loc H ad hd Q Qr)(F:FS cc c loc H ad hd s)(r:VR ad v x)(q:Q v H):Qr x s:=K v H ad hd s x (.refl _ _ _) F r q
def KV.int(K:KV cc c loc H ad hd Q Qr)(F:FS cc c loc H ad hd s)(q:Q (.int i) H)(t:Tok)(k:Nat):Qr (.int i t) {s with toks:=k}:=K (.int i) H ad hd _ _ (.refl _ _ _) F.toks ⟨t,rfl⟩ q
def KV.by(K:KV cc c loc H ad hd Q Qr)(F:FS cc c loc H ad hd s)(q:Q (.bytes b) H)(t:Tok)(k:Nat):Qr (.bytes b.toArray t) {s with toks:=k}:=K (.bytes b) H ad hd _ _ (.refl _ _ _) F.toks ⟨t,rfl⟩ q
def KV.bool(K:KV cc c loc H ad hd Q Qr)(T:Tr ad H hd ad1 H1 hd1)(F:FS cc c loc H1 ad1 hd1 s)(q:Q (.bool b) H1):Qr (.bool b) s:=K (.bool b) _ _ _ _ _ T F rfl q
def KV.none(K:KV cc c loc H ad hd Q Qr)(T:Tr ad H hd ad1 H1 hd1)(F:FS cc c loc H1 ad1 hd1 s)(q:Q .none H1):Qr .none s:=K .none _ _ _ _ _ T F rfl q
def KV.new(K:KV cc c loc H ad hd Q Qr)(F:FS cc c loc (H++[ao]) (ad++[a]) hd s')(q:Q (.ref H.length) (H++[ao])):Qr (.ref a) s':=by
 have hl:ad.length=H.length:=by
  have:=F.hr.len;rw[VH,VH]at this;exact Nat.add_right_cancel this
 refine K (.ref H.length) _ _ _ _ _ (Tr.snoc _ _ _ _ _) F (i0 a ?_ rfl) q;rw[←hl];exact W1 ..
noncomputable def uD:xn->Operator
 |.add=>.Add|.sub=>.Sub|.mul=>.Mult|.fdiv=>.FloorDiv|.mod=>.Mod
noncomputable def nz:uh->CmpOp
 |.eq=>.Eq|.ne=>.NotEq|.lt=>.Lt|.le=>.LtE|.gt=>.Gt|.ge=>.GtE
def uE(e:pN op=some o):op=uD o:=by induction op using Operator.casesOn<;>cases e<;>rfl
def mu(e:iJ op=some o):op=nz o:=by induction op using CmpOp.casesOn<;>cases e<;>rfl
def f_(h:n<=fO):n<=sizeLine:=V4 h (by rw[Y7];decide)
def D9{op:xn}{i j:Int}{t u:Tok}(F:FS cc c loc H ad hd s)(d:mj op i j H Q)(K:KV cc c loc H ad hd Q Qr):
  Vy (Vt cc.prog cc.w) A (binaryOp (uD op) (.int i t) (.int j u)) Qr Er s:=by
 induction op using xn.casesOn with
 |add=>exact add_int (K.int F d _ _)
 |sub=>exact sub_int (K.int F d _ _)
 |mul=>exact mul_int (K.int F d.2 _ _) (IntMulOk.of_left (intBits_le_64 (by have:=d.1.1;omega) (by have:=d.1.1;omega)))
 |fdiv=>
  refine floordiv_int (Uc d.1.1) ?_ (.inl (PyProof.noPylong_small (by have:=d.1.2;have:=d.1.1;omega)));rw[Int.fdiv_eq_ediv_of_nonneg _ (Ud d.1.1)];exact K.int F d.2 _ _
 |mod=>
  refine mod_int (Uc d.1) ?_;rw[Int.fmod_eq_emod_of_nonneg _ (Ud d.1)];exact K.int F d.2 _ _
def Iz(F:FS cc c loc H ad hd s)(ra:VR ad (.ref i) x)(rb:VR ad (.ref j) y)(d:yL H Q i j)(K:KV cc c loc H ad hd Q Qr):
  Vy (Vt cc.prog cc.w) A (binaryOp (uD .add) x y) Qr Er s:=by
 induction d using yL.casesOn with
 |mk xs ys h1 h2 h3 d=>
 refine jb x ra fun a1 e1=>?_;refine jb y rb fun b1 e2=>?_;refine QJ (F.hr.obj _ _ h1) fun a' _ e3 e4 vs l1 r1=>?_;rw[e1]at e3;injection e3 with e3;subst e3
 refine QJ (F.hr.obj _ _ h2) fun b' _ e5 e6 ws l2 r2=>?_;rw[e2]at e5;injection e5 with e5;subst e5
 refine o1 F.fr fun m hF L=>?_;refine add_arrays hF F.news (i0 _ e4 l1) (i0 _ e6 l2) (fun h' F' N'=>?_) ?_
 ·have F1:=F.made (ao:=.list (xs++ys)) (tk:=s.toks) F' L N' (fun p hp=>Wb (F.news p hp).1) (i0 _ ⟨rfl,0,rfl⟩ (by
   rw[List.toList_toArray];exact(r1.append r2).mono fun _ _ r=>VR.mono (VA ..) r))
  exact K.new F1 d
 ·refine f_ ?_;rw[←Wu,←Wu,←r1.length,←r2.length];exact h3
def Bo{op:xn}{a b:AV}{x y:Vq}(F:FS cc c loc H ad hd s)(ra:VR ad a x)(rb:VR ad b y)(d:nq op a b H Q)(K:KV cc c loc H ad hd Q Qr):
  Vy (Vt cc.prog cc.w) A (binaryOp (uD op) x y) Qr Er s:=by
 rcases d with⟨i,j,rfl,rfl,d⟩|⟨i,j,rfl,rfl,rfl,hz,d⟩|⟨i,j,rfl,rfl,rfl,d⟩
 ·refine cX x ra fun t=>?_;refine cX y rb fun u=>?_;exact D9 F d K
 ·refine cX x ra fun t=>?_;refine cX y rb fun u=>?_;refine KBy.add_bytes (by simp only[Wm];exact UA hz) fun t' k=>?_;rw[List.append_toArray];exact K.by F d _ _
 ·exact Iz F ra rb d K
def El(q:Qr (.bool (bk op i j)) s):Vy (Vt cc.prog cc.w) A (Zg (nz op) (.int i t) (.int j u)) Qr Er s:=by
 induction op using uh.casesOn with
 |eq=>exact eq_int (by rw[show(i==j)=decide (i=j)from rfl];exact q)
 |ne=>exact ne_int (by rw[show(i !=j)= !decide (i=j)from rfl];exact q)
 |lt=>exact lt_int q
 |le=>exact le_int q
 |gt=>exact gt_int q
 |ge=>exact ge_int q
def nN:(Value.str x t).isStr y=(x==y):=rfl
def HG(O:aO cc){n y:Nat}(hx:cc.T.an[n]?=some x)(h1:cc.T.an[y]?=some z)(hy:¬y=n):(z==x)=false:=by
 induction hz:z==x using Vu with
 |false=>rfl
 |true=>
  rw[beq_iff_eq.mp hz]at h1;exact absurd ((ZP (Vn.mp h1).1 O.an).mp (h1.trans hx.symm)) hy
def nD(h2:e.key=.str z t):getL x (e::l)=if z==x then some (some e.val)else getL x l:=by
 have hr:e.refKey=false:=by unfold DictEntry.refKey;rw[h2]
 unfold getL;rw[List.find?_cons,h2,nN,List.any_cons,hr,Bool.false_or];induction z==x using Vu<;>rfl
def IW(O:aO cc){n:Nat}(hx:cc.T.an[n]?=some x)(r:aw (DE cc ad) es ents)(q:lk n es=some u):∃v,getL x ents=some (some v)/\VR ad u v:=by
 induction r with
 |nil=>injection q
 |cons d rest ih=>
  refine o3 d fun z t h1 h2 h3 h4=>?_;rw[nD h2];rw[kf]at q
  split at q
  ·rename_i hy;(injection q with q;subst q);rw[hy,hx]at h1;(injection h1 with h1;subst h1);exact i0 _ (if_pos (beq_self_eq_true _)) h4
  ·rename_i hy;rw[HG O hx h1 hy];exact ih q
def EA(r:aw (DE cc ad) es ents)(q:∀p∈es,cc.T.an[p.1]?≠some x):getL x ents=some none:=by
 induction r with
 |nil=>rfl
 |cons d rest ih=>
  refine o3 d fun z t h1 h2 h3 h4=>?_;rw[nD h2,if_neg (fun hz=>q _ (Vl ..) (by rw[h1,beq_iff_eq.mp hz]))];exact ih fun p hp=>q p (Vj _ hp)
def EB(r:aw (DE cc ad) es ents):(getL x ents).isSome=true:=by
 induction r with
 |nil=>rfl
 |cons d rest ih=>
  refine o3 d fun z t h1 h2 h3 h4=>?_;rw[nD h2]
  split
  ·rfl
  ·exact ih
def B6(O:aO cc){n:Nat}(hx:cc.T.an[n]?=some x)(hv:VR ad u v)(r:aw (DE cc ad) es ents):
  aw (DE cc ad) (sd n u es) (putL x (YB cc.w.params x) (.str x t) v ents):=by
 induction r with
 |nil=>exact .cons (i6 x t hx rfl rfl hv) .nil
 |cons d rest ih=>
  refine o3 d fun z t' h1 h2 h3 h4=>?_;rw[show sd n u (_::_)=_ from tX];unfold putL
  split
  ·rename_i hy;rw[hy,hx]at h1;(injection h1 with h1;subst h1);rw[if_pos (by rw[h2,nN,beq_self_eq_true])];exact .cons (i6 x t' (by rw[hy];exact hx) h2 h3 hv) rest
  ·rename_i hy;rw[if_neg (by rw[h2,nN,HG O hx h1 hy];exact V9)];exact .cons (i6 z t' h1 h2 h3 h4) ih
theorem so(n:Nat)(u:AV):∀es:List (Nat×AV),(sd n u es).length<=es.length+1
 |[]=>VB _
 |(y,w)::r=>by
  rw[tX]
  split
  ·exact Nat.le_succ _
  ·have:=so n u r;simp only[VT];exact UB this
def zj(r:VR ad v x):handedIn x=true:=by
 induction v using AV.casesOn with
 |none=>subst r;rfl
 |bool=>subst r;rfl
 |int=>refine cX x r fun _=>?_;rfl
 |bytes=>refine cX x r fun _=>?_;rfl
 |ref=>refine jb x r fun _ _=>?_;rfl
 |prog=>subst r;rfl
def FS.inst(F:FS cc c loc H ad hd s){i d:Nat}(ex:ad[i]?=some x)(h1:H[i]?=some (.inst d))(h2:H[d]?=some (.dict es)):
  ∃dx ents n,ad[d]?=some dx/\InstAt s.heap x (instObj cc.cls dx) cc.cls (some (YX ents n))/\s.heap.get? dx=some (YX ents n)/\aw (DE cc ad) es ents:=by
 refine oZ fun zq=>?_;obtain⟨x',o1,e1,e2,dx,e3,rfl⟩:=F.hr.obj _ _ h1;rw[ex]at e1;(injection e1 with e1;subst e1);obtain⟨dx',o2,e4,e5,ents,n,rfl,r⟩:=F.hr.obj _ _ h2;refine zq ?_;rw[e3]at e4;(injection e4 with e4;subst e4);exact⟨dx,ents,n,e3,⟨e2,rfl,rfl,e5⟩,e5,r⟩
set_option tactic.hygienic true in
def xS(O:aO cc){n:Nat}(hx:cc.T.an[n]?=some x)(hn:n<8)(F:FS cc c loc H ad hd s)(r:VR ad v o)(d:fU n v H Q)(K:KV cc c loc H ad hd Q Qr):
  Vy (Vt cc.prog cc.w) A (getAttr o x b) Qr Er s:=by
 obtain⟨i,dd,es,u,rfl,h1,h2,h3,d⟩:=d;refine jb o r fun a ea=>?_;refine RB (F.inst ea h1 h2) fun dx ents n' e3 I e5 R=>?_;refine o1 (IW O hx R h3) fun w g1 g2=>?_;refine o1 F.fr fun m hF L=>?_;refine UL (O.attr n x hx hn) fun att f1 f2 f3=>?_;exact get_own hF O.inG I (O.plain x) O.hasD f1 f2 g1 (zj g2) (K _ _ _ _ _ _ (.refl _ _ _) F.toks g2 d)
set_option tactic.hygienic true in
def yE(O:aO cc){n:Nat}(hx:cc.T.an[n]?=some x)(hn:n<8)(F:FS cc c loc H ad hd s)(r:VR ad v o)(ru:VR ad u w){QS:AH->Prop}(d:lT n v u H QS)
  (K:∀H' s',Tr ad H hd ad H' hd->FS cc c loc H' ad hd s'->QS H'->QU () s'):
  Vy (Vt cc.prog cc.w) A (setAttr o x w) QU Er s:=by
 obtain⟨i,dd,es,rfl,h1,h2,hl,d⟩:=d;refine jb o r fun a ea=>?_;refine RB (F.inst ea h1 h2) fun dx ents n' e3 I e5 R=>?_;refine o1 F.fr fun m hF L=>?_;refine kY (O.attr n x hx hn) fun _ f3=>?_;have mdx:dx∈tot cc c.fr hd ad:=Vk _ (VP e3);refine set_dict hF O.inG F.news I rfl O.seta O.over f3 O.hasD (EB R) rfl (yI (ix.mpr ⟨mdx,e5⟩) (z0 F.hr.nodup)) ?_ fun h' F' N'=>?_
 ·have R':=B6 O hx ru (t:=s.toks+1) R;rw[←R'.length];have:=so n u es;exact UC hl this
 ·refine K _ _ (Tr.set h2 (fun z=>z)) (F.updN (ao:=.dict (sd n u es)) (o:=YX (putL x (YB cc.w.params x) (.str x (s.toks+1)) w ents) (putN x ents n')) F' L e3 h2 (fun z=>z) (fun b hb hne ob eb=>?_) ?_ (i2 _ _ rfl (B6 O hx ru R))) d
  ·have:=(N' (b,ob) (Wj.mpr (i0 ((b,ob)) (ix.mpr ⟨hb,eb⟩) (by rw[if_neg hne])))).1;exact this
  ·exact(N' (dx,_) (Wj.mpr (i0 ((dx,_)) (ix.mpr ⟨mdx,e5⟩) (by rw[if_pos rfl])))).1
def aw.get'{α β:Type}{R:α->β->Prop}{l:List α}{m:Array β}(h:aw R l m.toList){i:Nat}{a:α}(e:l[i]?=some a):∃b,m[i]?=some b/\R a b:=by
 refine o1 (h.get e) fun b e1 r=>?_;exact i0 b (by rw[←Yc];exact e1) r
def FS.list(F:FS cc c loc H ad hd s){j:Nat}(e:ad[j]?=some a)(h1:H[j]?=some (.list xs)):∃vs,s.heap.IsList a vs/\aw (VR ad) xs vs.toList:=by
 refine QJ (F.hr.obj _ _ h1) fun a' o e1 e2 vs l r=>?_;rw[e]at e1;(injection e1 with e1;subst e1);exact i0 vs ⟨_,e2,l⟩ r
def FS.tup(F:FS cc c loc H ad hd s){j:Nat}(e:ad[j]?=some a)(h1:H[j]?=some (.tup xs)):∃vs n,s.heap.get? a=some {cls:=.type "tuple",data:=.seq vs n}/\aw (VR ad) xs vs.toList:=by
 refine oZ fun zq=>?_;obtain⟨a',o,e1,e2,vs,n,rfl,r⟩:=F.hr.obj _ _ h1;refine zq ?_;rw[e]at e1;(injection e1 with e1;subst e1);exact i2 vs n e2 r
def rY(e:s.heap.get? a=some (W.listOf vs n)):s.heap.IsList a vs:=(i7 _ e rfl _ rfl)
def mL{a:Addr}{vs:Array Vq}{n:Nat}(e:s.heap.get? a=some {cls:=.type "tuple",data:=.seq vs n}):IsTup s.heap a vs:=(i7 _ e rfl _ rfl)
def aw.size{α β:Type}{R:α->β->Prop}{l:List α}{m:Array β}(h:aw R l m.toList):m.size=l.length:=by rw[h.length,Wu]
noncomputable def jN:Expr->Bool
 |.Slice ..=>true
 |_=>false
def iG(hs:jN slice=false)(o i:Vq):subscripted slice false o i=operate [o,i] (getItem o i):=by
 induction slice using Expr.casesOn<;>first|rfl|injection hs
set_option tactic.hygienic true in
def JC(V:az cc Γ){value slice:Expr}(hs:jN slice=false){a b:AV}(F:FS cc c loc H ad hd s)(ra:VR ad a o)(rb:VR ad b i)(d:qd Γ.gl a b H Q)(K:KV cc c loc H ad hd Q Qr):
  Vy (Vt cc.prog cc.w) A (Yy value slice o i) Qr Er s:=by
 rcases d with⟨n,b,x,rfl,rfl,h0,hl,hx,d⟩|⟨n,xs,x,rfl,e,h0,hl,hx,d⟩
 ·refine cX i rb fun t=>?_;refine cX o ra fun u=>?_;refine o8 (Vn.mp hx) fun hlt hx'=>?_;refine tail_any (typeIs_bytes s _ u) FB.slot_bytes_getitem.lookup (getItem_bytes (l:=b) (by unfold fO at hl;exact UD hl) h0 (by omega) ?_) (iG hs _ _);have:b.getD n.toNat 0=x:=by rw[VG,hx];rfl
  rw[this];exact K.int F d _ _
 ·refine cX i rb fun t=>?_;have hlt:=(Vn.mp hx).1;have lst:∀{a:Addr} {vs:Array Vq},s.heap.IsList a vs->aw (VR ad) xs vs.toList->Vy (Vt cc.prog cc.w) A (Yy value slice (.ref a) (.int n t)) Qr Er s:=fun e2 r=>by
   refine o1 (r.get' hx) fun v e3 r3=>?_;exact tail_any e2.typeIs slot_list_getitem.lookup (wpAny_getItem_list e2 h0 (by unfold fO at hl;omega) e3 (K.now F r3 d)) (iG hs _ _)
  rcases e with⟨j,rfl,hxs⟩|⟨j,rfl,hxs⟩|⟨a,rfl,hxs⟩
  ·refine jb o ra fun l el=>?_;exact o1 (F.list el hxs) fun vs e2 r=>lst e2 r
  ·refine jb o ra fun l el=>?_;refine o2 (F.tup el hxs) fun vs m e2 r=>?_;refine o1 (r.get' hx) fun v e3 r3=>?_;refine tail_any (mL e2).typeIs slot_tuple_getitem.lookup (PyProof.Rows.getItem_tuple (mL e2) (by omega) (by unfold fO at hl;omega) (j:=n.toNat) ?_ e3 (K.now F r3 d)) (iG hs _ _);have hn:¬n<0:=by exact Sw h0
   have hs:vs.size=xs.length:=r.size;have h1:n<(xs.length:Int):=by omega
   simp[seqIndex?,hn,h0,hs,h1]
  ·subst ra;exact o2 (V.gl _ _ hxs) fun vs m e2 r=>lst (rY (F.hr.keep _ _ e2)) (r ad)
set_option tactic.hygienic true in
/-- a bound of a slice -/
def vf(r:VR ad v x)(e:JU v=some l):∃p,IsPart x p/\∀n,kms_lo p n=min l n/\p.elim 0 (clipAt n)=min l n:=by
 unfold JU at e
 split at e
 ·subst r;(injection e with e;subst e);exact i0 none .none (fun n=>⟨by simp[kms_lo],by simp⟩)
 ·rename_i i;refine cX x r fun t=>?_
  split at e
  ·rename_i hi;(injection e with e;subst e);refine i0 (some i) (.int _ _) (fun n=>⟨by simp only[kms_lo];rw[if_neg (by exact Sw hi)],?_⟩);refine cX i (Int.eq_ofNat_of_zero_le hi) fun m=>?_;exact clipAt_nat n m
  ·injection e
 ·injection e
set_option tactic.hygienic true in
def uW(r:VR ad v x)(e:JA n v=some l):∃p,IsPart x p/\kms_hi p n=l/\p.elim n (clipAt n)=l:=by
 unfold JA at e
 split at e
 ·subst r;(injection e with e;subst e);exact i8 none .none rfl rfl
 ·rename_i i;refine cX x r fun t=>?_
  split at e
  ·rename_i hi;(injection e with e;subst e);refine i8 (some i) (.int _ _) (by simp only[kms_hi];rw[if_neg (by exact Sw hi)]) ?_;refine cX i (Int.eq_ofNat_of_zero_le hi) fun m=>?_;exact clipAt_nat n m
  ·injection e
 ·injection e
def BX{α β:Type}{R:α->β->Prop}{l:List α}{m:List β}(h:aw R l m)(lo hi:Nat):aw R (cut l lo hi) (cut m lo hi):=(h.drop lo).take _
def zW{lo hi:Option Expr}(F:FS cc c loc H ad hd s)(hl:s.heap.IsList l vs)(il:IsPart vl pl)(iu:IsPart vu pu){ys:List AV}
  (hz:vs.size<=fO)(r:aw (VR ad) ys (slicePick vs pl pu none).toList)(q:Q (.ref H.length) (H++[.list ys]))(K:KV cc c loc H ad hd Q Qr):
  Vy (Vt cc.prog cc.w) A (Yy value (.Slice lo hi none p) (.ref l) (.ref s.heap.objs.size)) Qr Er {s with heap:=s.heap.push {cls:=.type "slice",data:=.fields #[vl,vu,.none]}}:=by
 refine tail_any (Heap.IsList.typeIs (s:={s with heap:=s.heap.push {cls:=.type "slice",data:=.fields #[vl,vu,.none]}}) (hl.push _)) list_getitem_lookup
  (wpAny_getItem_list_slice (hl.push _) (Heap.IsSliceOf.new ..) il iu .none (by simp) ?_ (f_ hz)) rfl
 have F1:=F.grow (h':=s.heap.push {cls:=.type "slice",data:=.fields #[vl,vu,.none]}) (k:=s.toks) fun b o e=>Vx _ e;have F2:=F1.alloc (ao:=.list ys) (o:=W.listOf (slicePick vs pl pu none) 0) (k:=s.toks) (a:=(s.heap.push {cls:=.type "slice",data:=.fields #[vl,vu,.none]}).objs.size)
  (h':=(s.heap.push {cls:=.type "slice",data:=.fields #[vl,vu,.none]}).push (W.listOf (slicePick vs pl pu none) 0)) (fun b o e=>Vx _ e) (Wd (VB _)) (V_ _ rfl)
  (i0 _ ⟨rfl,0,rfl⟩ (r.mono fun _ _ x=>x.mono (VA ..)))
 exact K.new F2 q
set_option tactic.hygienic true in
def J6(V:az cc Γ){value:Expr}{lo hi:Option Expr}{a b e:AV}(F:FS cc c loc H ad hd s)(ra:VR ad a o)(rb:VR ad b x)(re:VR ad e y)(d:qR Γ.gl a b e H Q)(K:KV cc c loc H ad hd Q Qr):
  Vy (Vt cc.prog cc.w) A (Yy value (.Slice lo hi none p) o (.ref s.heap.objs.size)) Qr Er {s with heap:=s.heap.push {cls:=.type "slice",data:=.fields #[x,y,.none]}}:=by
 have lst:∀{a:Addr} {vs:Array Vq} {xs:List AV} {l h:Nat},JU b=some l->s.heap.IsList a vs->aw (VR ad) xs vs.toList->xs.length<=fO->JA xs.length e=some h->Q (.ref H.length) (H++[.list (cut xs (min l xs.length) h)])->
   Vy (Vt cc.prog cc.w) A (Yy value (.Slice lo hi none p) (.ref a) (.ref s.heap.objs.size)) Qr Er {s with heap:=s.heap.push {cls:=.type "slice",data:=.fields #[x,y,.none]}}:=by
  intro a vs xs l h hl hL r hz hh q;refine oZ fun zq=>?_;refine o1 (vf rb hl) fun pl il fl=>?_;refine eD (uW re hh) fun pu iu fu _=>?_;refine zq ?_;refine zW F hL il iu (by rw[r.size];exact hz) ?_ q K;rw[kms_pick_eq];unfold kms_pick;rw[←r.length,(fl _).1,fu];exact BX r _ _
 rcases d with⟨l,h,bs,hl,rfl,hz,hh,d⟩|⟨l,h,j,xs,hl,rfl,hxs,hz,hh,d⟩|⟨l,h,a,xs,hl,rfl,hxs,hz,hh,d⟩
 ·refine o1 (vf rb hl) fun pl il fl=>?_;refine cX o ra fun t=>?_;refine eD (uW re hh) fun pu iu _ fu=>?_;refine o1 F.fr fun m hF L=>?_;refine tail_any (typeIs_bytes _ _ _) FB.slot_bytes_getitem.lookup (getItem_meets (typeIs_bytes _ _ _) (by decide) Zn FB.entry_bytes_getitem (FB.args_bytes_getitem_2 _ _) (KBc.meets_slice2 bs.toArray t _ il iu)
   ⟨Heap.IsSliceOf.new _ _ _ _,V4 (KBc.size_picked_le _ _ _) (f_ (by rw[Wm];exact hz)),fun t' k=>?_⟩) rfl
  have e1:KBy.picked bs.toArray pl pu=(cut bs (min l bs.length) h).toArray:=by
   rw[KBc.picked_eq,Wm,(fl _).2,fu];rfl
  rw[e1];have F1:=F.grow (h':=s.heap.push {cls:=.type "slice",data:=.fields #[x,y,.none]}) (k:=s.toks) fun b o e=>Vx _ e;exact K.by F1 d _ _
 ·refine jb o ra fun a ea=>?_;exact o1 (F.list ea hxs) fun vs e2 r=>lst hl e2 r hz hh d
 ·subst ra;exact o2 (V.gl _ _ hxs) fun vs m e2 r=>lst hl (rY (F.hr.keep _ _ e2)) (r ad) hz hh d
def wN(F:FS cc c loc H ad hd s)(r:aw (VR ad) xs vs)(hz:xs.length<=fO)(q:Q (.ref H.length) (H++[.list xs]))(K:KV cc c loc H ad hd Q Qr):Vy (Vt cc.prog cc.w) A (newList vs) Qr Er s:=by
 refine Wl ?_ (by show vs.toArray.size<=sizeLine;rw[Wm,←r.length];exact f_ hz);exact K.new (F.alloc (ao:=.list xs) (k:=s.toks) (fun b o e=>Vx _ e) (Wd (VB _)) (V_ _ rfl) (i0 _ ⟨rfl,0,rfl⟩ (r.mono fun _ _ x=>x.mono (VA ..)))) q
def oJ(F:FS cc c loc H ad hd s)(r:aw (VR ad) xs vs)(hz:xs.length<=fO)(q:Q (.ref H.length) (H++[.tup xs]))(K:KV cc c loc H ad hd Q Qr):Vy (Vt cc.prog cc.w) A (newTuple vs) Qr Er s:=by
 refine Wl ?_ (by show vs.toArray.size<=sizeLine;rw[Wm,←r.length];exact f_ hz);exact K.new (F.alloc (ao:=.tup xs) (k:=s.toks) (fun b o e=>Vx _ e) (Wd (VB _)) (V_ _ rfl) (i2 _ 0 rfl (r.mono fun _ _ x=>x.mono (VA ..)))) q
abbrev ja:=AH->QE->(AH->Prop)->Prop
abbrev vW:=AH->(Bool->AH->Prop)->(AH->Prop)->Prop
variable{D D1 D2 D3:ja}{T1 T2:vW}
def qM(h:aC cc c A loc t D)(hd:∀H Q E,D1 H Q E->D H Q E):aC cc c A loc t D1:=fun H ad hd' s Q E Qr Er F d=>h H ad hd' s Q E Qr Er F (hd _ _ _ d)
def mY(h:bZ cc c A loc t T1)(hd:∀H Q E,T2 H Q E->T1 H Q E):bZ cc c A loc t T2:=fun H ad hd' s Q E Qr Er F d=>h H ad hd' s Q E Qr Er F (hd _ _ _ d)
def gV{e:Expr}{av:AV}{x:Vq}(h:∀Q E s,(∀t k,Q (match av with|.int i=>.int i t|.bytes b=>.bytes b.toArray t|_=>x) {s with toks:=k})->Vy (Vt cc.prog cc.w) A (eval e c.env) Q E s)
  (hx:match av with|.none=>x=.none|.bool b=>x=.bool b|.int _=>True|.bytes _=>True|_=>False):aC cc c A loc (eval e c.env) (fun H Q _=>Q av H):=by
 intro H ad hd s Q E Qr Er F d q _;refine h _ _ _ fun t k=>?_;refine q av H ad hd _ _ (.refl _ _ _) F.toks ?_ d;induction av using AV.casesOn<;>first|exact hx|exact⟨t,rfl⟩|exact hx.elim
def q9(hc:bU o=false):eval (.Attribute o a pos) env=(do
   let v←eval o env
   Yh pos.atName
   let r←holding [v] (getAttr v a true)
   letTemporaryGo o v r
   pure r):=by
 induction o using Expr.casesOn<;>first|(cases hc;done)|with_unfolding_all rfl
def C_(O:aO cc)(hc:bU o=false)(hx:cc.T.an[n]?=some x)(hn:n<8)(ho:aC cc c A loc (eval o c.env) D):
  aC cc c A loc (eval (.Attribute o x pos) c.env) (fun H Q E=>D H (fun v H1=>fU n v H1 Q) E):=by
 intro H ad hd s Q E Qr Er F d q e;refine Attribute_any_ (ho _ _ _ _ _ _ _ _ F d (fun v H1 ad1 hd1 s1 y T1 F1 r1 d1=>?_) e) (q9 hc);exact xS O hx hn F1 r1 d1 (KV.tr q T1)
def Fq(hl:aC cc c A loc (eval l c.env) D1)(hr:aC cc c A loc (eval r c.env) D2):
  aC cc c A loc (eval (.BinOp l (uD op) r pos) c.env) (fun H Q E=>D1 H (fun a H1=>D2 H1 (fun b H2=>nq op a b H2 Q) E) E):=by
 intro H ad hd s Q E Qr Er F d q e;refine wpAny_BinOp (hl _ _ _ _ _ _ _ _ F d (fun a H1 ad1 hd1 s1 x T1 F1 r1 d1=>?_) e);refine hr _ _ _ _ _ _ _ _ F1 d1 (fun b H2 ad2 hd2 s2 y T2 F2 r2 d2=>?_) (KE.tr e T1);exact Bo F2 (r1.mono T2.ad) r2 d2 (KV.tr (KV.tr q T1) T2)
def v3(cc:CC)(c:FC)(A:VN)(loc:aM)(op:CmpOp)(l r:Expr)(D:ja):Prop:=
 ∀(H:AH) (ad:List Addr) (hd:Hid) (s:Vo) (Q:QE) (E:AH->Prop) (Qr:Vq->Vo->Prop) (Er:d_),
  FS cc c loc H ad hd s->D H Q E->KV cc c loc H ad hd Q Qr->KE cc c loc H ad hd E Er->
  Vy (Vt cc.prog cc.w) A (eval l c.env) (fun a s₁=>Vy (Vt cc.prog cc.w) A (eval r c.env) (fun b s₂=>Vy (Vt cc.prog cc.w) A (Zg op a b) Qr Er s₂) Er s₁) Er s
def BB(hm:Z2 op r=false)(h:v3 cc c A loc op l r D):aC cc c A loc (eval (.Compare l [op] [r] pos) c.env) D:=
 fun H ad hd s Q E Qr Er F d q e=>wpAny_Compare1 (h H ad hd s Q E Qr Er F d q e) hm
def j7(r:VR ad v x)(d:aE v QT)(q:∀b,QT b->QBr b s):Vy (Vt cc.prog cc.w) A (truthy x) QBr Er s:=by
 induction v using AV.casesOn with
 |bool=>subst r;exact XH (q _ d)
 |_=>exact d.elim
def BD(hm:Z2 op r=false)(h:v3 cc c A loc op l r D):
  bZ cc c A loc (VM (.Compare l [op] [r] pos) c.env whole) (fun H Q E=>D H (fun v H1=>aE v (fun b=>Q b H1)) E):=
 fun H ad hd s Q E Qr Er F d q e=>wpAny_isTrue_Compare1 (h H ad hd s _ E (fun v s'=>Vy (Vt cc.prog cc.w) A (truthy v) Qr Er s') Er F d
  (fun v H1 ad1 hd1 s1 x T1 F1 r1 d1=>j7 r1 d1 fun b qb=>q _ _ _ _ _ T1 F1 qb) e) hm
structure k_(cc:CC):Prop where
 eq:∀{c:FC}{A:VN}{loc:aM}{H:AH}{ad:List Addr}{hd:Hid}{s:Vo}{a b:AV}{x y:Vq}{Q:Bool->Prop}{Qr:Vq->Vo->Prop}{Er:d_}{k:Nat},bx c A k->FS cc c loc H ad hd s->VR ad a x->VR ad b y->Rm a b H Q->
  (∀c' s',FS cc c loc H ad hd s'->Q c'->Qr (.bool c') s')->Vy (Vt cc.prog cc.w) A (Zg .Eq x y) Qr Er s
 ne:∀{c:FC}{A:VN}{loc:aM}{H:AH}{ad:List Addr}{hd:Hid}{s:Vo}{a b:AV}{x y:Vq}{Q:Bool->Prop}{Qr:Vq->Vo->Prop}{Er:d_}{k:Nat},bx c A k->FS cc c loc H ad hd s->VR ad a x->VR ad b y->Rm a b H Q->
  (∀c' s',FS cc c loc H ad hd s'->Q c'->Qr (.bool (!c')) s')->Vy (Vt cc.prog cc.w) A (Zg .NotEq x y) Qr Er s
 has:∀{c:FC}{A:VN}{loc:aM}{H:AH}{ad:List Addr}{hd:Hid}{s:Vo}{a b:AV}{x y:Vq}{Q:Bool->Prop}{Qr:Vq->Vo->Prop}{Er:d_}{k:Nat},bx c A k->FS cc c loc H ad hd s->VR ad a x->VR ad b y->zk a b Q->
  (∀c' s',FS cc c loc H ad hd s'->Q c'->Qr (.bool c') s')->Vy (Vt cc.prog cc.w) A (Zg .In x y) Qr Er s
def eL(X:k_ cc)(ao:bx c A k)(F:FS cc c loc H ad hd s)(ra:VR ad a x)(rb:VR ad b y){QB:Bool->Prop}(d:bQ op a b H QB)(q:∀c' s',FS cc c loc H ad hd s'->QB c'->Qr (.bool c') s'):
  Vy (Vt cc.prog cc.w) A (Zg (nz op) x y) Qr Er s:=by
 rcases d with⟨i,j,rfl,rfl,d⟩|⟨rfl,d⟩|⟨rfl,d⟩
 ·refine cX x ra fun t=>?_;refine cX y rb fun u=>?_;exact El (q _ _ F d)
 ·exact X.eq ao F ra rb d q
 ·exact X.ne ao F ra rb d fun c' s' F' h'=>q _ _ F' h'
def kh(op:uh)(r:Expr):Z2 (nz op) r=false:=by
 induction r using Expr.casesOn<;>first|rfl|(induction op using uh.casesOn<;>exact(congrArg (fun z=>z&&_) (Bool.and_false _)).trans (Bool.false_and _))
def C5(X:k_ cc)(ao:bx c A k)(hl:aC cc c A loc (eval l c.env) D1)(hr:aC cc c A loc (eval r c.env) D2):
  v3 cc c A loc (nz op) l r (fun H Q E=>D1 H (fun a H1=>D2 H1 (fun b H2=>bQ op a b H2 (fun c=>Q (.bool c) H2)) E) E):=by
 intro H ad hd s Q E Qr Er F d q e;refine hl _ _ _ _ _ _ _ _ F d (fun a H1 ad1 hd1 s1 x T1 F1 r1 d1=>?_) e;refine hr _ _ _ _ _ _ _ _ F1 d1 (fun b H2 ad2 hd2 s2 y T2 F2 r2 d2=>?_) (KE.tr e T1);exact eL X ao F2 (r1.mono T2.ad) r2 d2 fun c' s' F' h'=>KV.bool q (T1.trans T2) F' h'
def Fn(X:k_ cc)(ao:bx c A k)(hl:aC cc c A loc (eval l c.env) D1)(hr:aC cc c A loc (eval r c.env) D2):
  v3 cc c A loc .In l r (fun H Q E=>D1 H (fun a H1=>D2 H1 (fun b H2=>zk a b (fun c=>Q (.bool c) H2)) E) E):=by
 intro H ad hd s Q E Qr Er F d q e;refine hl _ _ _ _ _ _ _ _ F d (fun a H1 ad1 hd1 s1 x T1 F1 r1 d1=>?_) e;refine hr _ _ _ _ _ _ _ _ F1 d1 (fun b H2 ad2 hd2 s2 y T2 F2 r2 d2=>?_) (KE.tr e T1);exact X.has ao F2 (r1.mono T2.ad) r2 d2 fun c' s' F' h'=>KV.bool q (T1.trans T2) F' h'
def gQ(h:eC r=true):∃n p,r=.Constant .none n p:=by
 refine sC r fun R hR=>?_;induction r using Expr.casesOn with
 |Constant v n p=>
  induction v using XN with
  |none=>exact hR _ (i5 _ _ rfl)
  |_=>injection h
 |_=>injection h
def Fo{l r:Expr}(hn:eC r=true)(hl:aC cc c A loc (eval l c.env) D1):
  v3 cc c A loc .Is l r (fun H Q E=>D1 H (fun v H1=>Q (.bool (match v with|.none=>true|_=>false)) H1) E):=by
 refine uf r (gQ hn) fun n p=>?_;intro H ad hd s Q E Qr Er F d q e;refine hl _ _ _ _ _ _ _ _ F d (fun a H1 ad1 hd1 s1 x T1 F1 r1 d1=>?_) e;induction a using AV.casesOn with
 |none=>subst r1;exact V' (YA (KV.bool q T1 F1 d1))
 |bool=>subst r1;exact V' (YA (KV.bool q T1 F1 d1))
 |int=>refine cX x r1 fun _=>?_;exact V' (YA (KV.bool q T1 F1 d1))
 |bytes=>refine cX x r1 fun _=>?_;exact V' (YA (KV.bool q T1 F1 d1))
 |ref=>refine jb x r1 fun _ _=>?_;exact V' (YA (KV.bool q T1 F1 d1))
 |prog=>subst r1;exact V' (YA (KV.bool q T1 F1 d1))
def wZ{l r:Expr}(hn:eC r=true)(hl:aC cc c A loc (eval l c.env) D1):
  v3 cc c A loc .IsNot l r (fun H Q E=>D1 H (fun v H1=>Q (.bool (match v with|.none=>false|_=>true)) H1) E):=by
 refine uf r (gQ hn) fun n p=>?_;intro H ad hd s Q E Qr Er F d q e;refine hl _ _ _ _ _ _ _ _ F d (fun a H1 ad1 hd1 s1 x T1 F1 r1 d1=>?_) e;induction a using AV.casesOn with
 |none=>subst r1;exact V' (Zq (KV.bool q T1 F1 d1))
 |bool=>subst r1;exact V' (Zq (KV.bool q T1 F1 d1))
 |int=>refine cX x r1 fun _=>?_;exact V' (Zq (KV.bool q T1 F1 d1))
 |bytes=>refine cX x r1 fun _=>?_;exact V' (Zq (KV.bool q T1 F1 d1))
 |ref=>refine jb x r1 fun _ _=>?_;exact V' (Zq (KV.bool q T1 F1 d1))
 |prog=>subst r1;exact V' (Zq (KV.bool q T1 F1 d1))
def HI(o1 o2:uh)(D1 D2 D3:ja):ja:=fun H Q E=>D1 H (fun a H1=>D2 H1 (fun b H2=>bQ o1 a b H2 (fun c=>
   if c then D3 H2 (fun d H3=>bQ o2 b d H3 (fun c'=>Q (.bool c') H3)) E else Q (.bool false) H2)) E) E
def CG(o1 o2:uh)(m r:Expr):lastMarks [nz o1,nz o2] [m,r]=false:=kh o2 r
def Da(X:k_ cc)(ao:bx c A k){o1 o2:uh}(hl:aC cc c A loc (eval l c.env) D1)(hm:aC cc c A loc (eval m c.env) D2)(hr:aC cc c A loc (eval r c.env) D3):
  aC cc c A loc (eval (.Compare l [nz o1,nz o2] [m,r] pos) c.env) (HI o1 o2 D1 D2 D3):=by
 intro H ad hd s Q E Qr Er F d q e;refine Compare_chain (hl _ _ _ _ _ _ _ _ F d (fun a H1 ad1 hd1 s1 x T1 F1 r1 d1=>?_) e) (CG _ _ _ _);refine chain_link (hm _ _ _ _ _ _ _ _ F1 d1 (fun b H2 ad2 hd2 s2 y T2 F2 r2 d2=>?_) (KE.tr e T1));refine eL X ao F2 (r1.mono T2.ad) r2 d2 fun c' s' F' h'=>XH ?_;induction c' using Vu with
 |false=>exact KV.bool q (T1.trans T2) F' h'
 |true=>
  simp only[if_true]at h'⊢;refine chain_last (hr _ _ _ _ _ _ _ _ F' h' (fun b H3 ad3 hd3 s3 z T3 F3 r3 d3=>?_) (KE.tr (KE.tr e T1) T2));exact eL X ao F3 (r2.mono T3.ad) r3 d3 fun c' s' F' h'=>KV.bool q ((T1.trans T2).trans T3) F' h'
def zY(X:k_ cc)(ao:bx c A k){o1 o2:uh}(hl:aC cc c A loc (eval l c.env) D1)(hm:aC cc c A loc (eval m c.env) D2)(hr:aC cc c A loc (eval r c.env) D3):
  bZ cc c A loc (VM (.Compare l [nz o1,nz o2] [m,r] pos) c.env whole) (fun H Q E=>HI o1 o2 D1 D2 D3 H (fun v H1=>aE v (fun b=>Q b H1)) E):=by
 intro H ad hd s Q E Qr Er F d q e;refine isTrue_chain (hl _ _ _ _ _ _ _ _ F d (fun a H1 ad1 hd1 s1 x T1 F1 r1 d1=>?_) e) (CG _ _ _ _);refine test_link (hm _ _ _ _ _ _ _ _ F1 d1 (fun b H2 ad2 hd2 s2 y T2 F2 r2 d2=>?_) (KE.tr e T1));refine eL X ao F2 (r1.mono T2.ad) r2 d2 fun c' s' F' h'=>XH ?_;induction c' using Vu with
 |false=>exact q _ _ _ _ _ (T1.trans T2) F' h'
 |true=>
  simp only[if_true]at h'⊢;refine test_last (hr _ _ _ _ _ _ _ _ F' h' (fun b H3 ad3 hd3 s3 z T3 F3 r3 d3=>?_) (KE.tr (KE.tr e T1) T2));exact eL X ao F3 (r2.mono T3.ad) r3 d3 fun c' s' F' h'=>XH (q _ _ _ _ _ ((T1.trans T2).trans T3) F' h')
def Fu(h:aC cc c A loc (eval x c.env) D):aC cc c A loc (eval (.UnaryOp .Not x pos) c.env) (fun H Q E=>D H (fun v H1=>aE v (fun b=>Q (.bool (!b)) H1)) E):=by
 intro H ad hd s Q E Qr Er F d q e;refine wpAny_UnaryOp (h _ _ _ _ _ _ _ _ F d (fun a H1 ad1 hd1 s1 x T1 F1 r1 d1=>?_) e);exact not_of (j7 r1 d1 fun b hb=>KV.bool q T1 F1 hb)
def Ft(ht:bZ cc c A loc (VM t c.env (eval t c.env)) T1)(ha:aC cc c A loc (eval a c.env) D1)(hb:aC cc c A loc (eval b c.env) D2):
  aC cc c A loc (eval (.IfExp t a b pos) c.env) (fun H Q E=>T1 H (fun t H1=>if t then D1 H1 Q E else D2 H1 Q E) E):=by
 intro H ad hd s Q E Qr Er F d q e;refine wpAny_IfExp (ht _ _ _ _ _ _ _ _ F d (fun v H1 ad1 hd1 s1 T1 F1 d1=>?_) e);induction v using Vu with
 |true=>exact ha _ _ _ _ _ _ _ _ F1 d1 (KV.tr q T1) (KE.tr e T1)
 |false=>exact hb _ _ _ _ _ _ _ _ F1 d1 (KV.tr q T1) (KE.tr e T1)
def Dk(ht:bZ cc c A loc (VM t c.env (eval t c.env)) T1)(ha:bZ cc c A loc (VM a c.env (eval a c.env)) Ta)(hb:bZ cc c A loc (VM b c.env (eval b c.env)) Tb):
  bZ cc c A loc (VM (.IfExp t a b pos) c.env whole) (fun H Q E=>T1 H (fun t H1=>if t then Ta H1 Q E else Tb H1 Q E) E):=by
 intro H ad hd s Q E Qr Er F d q e;refine isTrue_IfExp (ht _ _ _ _ _ _ _ _ F d (fun v H1 ad1 hd1 s1 T1 F1 d1=>?_) e);induction v using Vu with
 |true=>exact ha _ _ _ _ _ _ _ _ F1 d1 (KB.tr q T1) (KE.tr e T1)
 |false=>exact hb _ _ _ _ _ _ _ _ F1 d1 (KB.tr q T1) (KE.tr e T1)
def Dl(h:bZ cc c A loc (VM x c.env (eval x c.env)) T1):bZ cc c A loc (VM (.UnaryOp .Not x pos) c.env whole) (fun H Q E=>T1 H (fun b H1=>Q (!b) H1) E):=by
 intro H ad hd s Q E Qr Er F d q e;exact isTrue_not (h _ _ _ _ _ _ _ _ F d (fun v H1 ad1 hd1 s1 T1 F1 d1=>q _ _ _ _ _ T1 F1 d1) e)
def xd(he:VM e c.env (eval e c.env)=(do let v←eval e c.env;Yh e.pos;holding [v] (truthy v)))(h:aC cc c A loc (eval e c.env) D):
  bZ cc c A loc (VM e c.env (eval e c.env)) (fun H Q E=>D H (fun v H1=>aE v (fun b=>Q b H1)) E):=by
 intro H ad hd s Q E Qr Er F d q e';exact isTrue_plain (h _ _ _ _ _ _ _ _ F d (fun v H1 ad1 hd1 s1 x T1 F1 r1 d1=>j7 r1 d1 fun b hb=>q _ _ _ _ _ T1 F1 hb) e') he
def Cf(hne:rest≠[])(hx:aC cc c A loc (eval x c.env) D1)(hr:aC cc c A loc (eval (.BoolOp .And rest pos) c.env) D2):
  aC cc c A loc (eval (.BoolOp .And (x::rest) pos) c.env) (fun H Q E=>D1 H (fun v H1=>aE v (fun b=>if b then D2 H1 Q E else Q v H1)) E):=by
 induction rest using Vr with
 |nil=>exact absurd rfl hne
 |cons y r=>
 intro H ad hd s Q E Qr Er F d q e;refine BoolOp_and (hx _ _ _ _ _ _ _ _ F d (fun v H1 ad1 hd1 s1 x T1 F1 r1 d1=>?_) e);refine j7 r1 d1 fun b hb=>?_;induction b using Vu with
 |true=>exact hr _ _ _ _ _ _ _ _ F1 hb (KV.tr q T1) (KE.tr e T1)
 |false=>exact q _ _ _ _ _ _ T1 F1 r1 hb
def EE(hne:rest≠[])(hx:aC cc c A loc (eval x c.env) D1)(hr:aC cc c A loc (eval (.BoolOp .Or rest pos) c.env) D2):
  aC cc c A loc (eval (.BoolOp .Or (x::rest) pos) c.env) (fun H Q E=>D1 H (fun v H1=>aE v (fun b=>if b then Q v H1 else D2 H1 Q E)) E):=by
 induction rest using Vr with
 |nil=>exact absurd rfl hne
 |cons y r=>
 intro H ad hd s Q E Qr Er F d q e;refine BoolOp_or (hx _ _ _ _ _ _ _ _ F d (fun v H1 ad1 hd1 s1 x T1 F1 r1 d1=>?_) e);refine j7 r1 d1 fun b hb=>?_;induction b using Vu with
 |true=>exact q _ _ _ _ _ _ T1 F1 r1 hb
 |false=>exact hr _ _ _ _ _ _ _ _ F1 hb (KV.tr q T1) (KE.tr e T1)
def zX(hx:bZ cc c A loc (VM x c.env (eval x c.env)) T1):bZ cc c A loc (VM (.BoolOp .And [x] pos) c.env whole) T1:=by
 intro H ad hd s Q E Qr Er F d q e;refine isTrue_and (hx _ _ _ _ _ _ _ _ F d (fun v H1 ad1 hd1 s1 T1 F1 d1=>?_) e);induction v using Vu with
 |true=>exact isTrue_and_nil (q _ _ _ _ _ T1 F1 d1)
 |false=>exact q _ _ _ _ _ T1 F1 d1
def Dm(hx:bZ cc c A loc (VM x c.env (eval x c.env)) T1):bZ cc c A loc (VM (.BoolOp .Or [x] pos) c.env whole) T1:=by
 intro H ad hd s Q E Qr Er F d q e;refine isTrue_or (hx _ _ _ _ _ _ _ _ F d (fun v H1 ad1 hd1 s1 T1 F1 d1=>?_) e);induction v using Vu with
 |true=>exact q _ _ _ _ _ T1 F1 d1
 |false=>exact isTrue_or_nil (q _ _ _ _ _ T1 F1 d1)
def Dj(hx:bZ cc c A loc (VM x c.env (eval x c.env)) T1)(hr:bZ cc c A loc (VM (.BoolOp .And rest pos) c.env whole) T2):
  bZ cc c A loc (VM (.BoolOp .And (x::rest) pos) c.env whole) (fun H Q E=>T1 H (fun b H1=>if b then T2 H1 Q E else Q false H1) E):=by
 intro H ad hd s Q E Qr Er F d q e;refine isTrue_and (hx _ _ _ _ _ _ _ _ F d (fun v H1 ad1 hd1 s1 T1 F1 d1=>?_) e);induction v using Vu with
 |true=>exact hr _ _ _ _ _ _ _ _ F1 d1 (KB.tr q T1) (KE.tr e T1)
 |false=>exact q _ _ _ _ _ T1 F1 d1
def FD(hx:bZ cc c A loc (VM x c.env (eval x c.env)) T1)(hr:bZ cc c A loc (VM (.BoolOp .Or rest pos) c.env whole) T2):
  bZ cc c A loc (VM (.BoolOp .Or (x::rest) pos) c.env whole) (fun H Q E=>T1 H (fun b H1=>if b then Q true H1 else T2 H1 Q E) E):=by
 intro H ad hd s Q E Qr Er F d q e;refine isTrue_or (hx _ _ _ _ _ _ _ _ F d (fun v H1 ad1 hd1 s1 T1 F1 d1=>?_) e);induction v using Vu with
 |true=>exact q _ _ _ _ _ T1 F1 d1
 |false=>exact hr _ _ _ _ _ _ _ _ F1 d1 (KB.tr q T1) (KE.tr e T1)
def Fs(V:az cc Γ)(hs:jN i=false)(hv:aC cc c A loc (eval v c.env) D1)(hi:aC cc c A loc (eval i c.env) D2):
  aC cc c A loc (eval (.Subscript v i pos) c.env) (fun H Q E=>D1 H (fun a H1=>D2 H1 (fun b H2=>qd Γ.gl a b H2 Q) E) E):=by
 intro H ad hd s Q E Qr Er F d q e;refine Subscript_ (hv _ _ _ _ _ _ _ _ F d (fun a H1 ad1 hd1 s1 x T1 F1 r1 d1=>?_) e);refine hi _ _ _ _ _ _ _ _ F1 d1 (fun b H2 ad2 hd2 s2 y T2 F2 r2 d2=>?_) (KE.tr e T1);exact JC V hs F2 (r1.mono T2.ad) r2 d2 (KV.tr (KV.tr q T1) T2)
def Ad(cc:CC)(c:FC)(A:VN)(loc:aM)(o:Option Expr)(D:ja):Prop:=match o with
 |none=>D=fun H Q _=>Q .none H
 |some e=>aC cc c A loc (eval e c.env) D
def QO(o:Option Expr)(h:Ad cc c A loc o D):aC cc c A loc (valueOrNone (evalOpt o c.env)) D:=by
 induction o using Option.casesOn with
 |none=>
  unfold Ad at h;subst h;intro H ad hd s Q E Qr Er F d q e;exact Vp (KV.none q (.refl _ _ _) F d)
 |some e=>exact h
def Fv(V:az cc Γ){lo hi:Option Expr}(hv:aC cc c A loc (eval v c.env) D1)(hl:Ad cc c A loc lo D2)(hh:Ad cc c A loc hi D3):
  aC cc c A loc (eval (.Subscript v (.Slice lo hi none p) pos) c.env) (fun H Q E=>D1 H (fun a H1=>D2 H1 (fun b H2=>D3 H2 (fun e H3=>qR Γ.gl a b e H3 Q) E) E) E):=by
 intro H ad hd s Q E Qr Er F d q e;refine Subscript_ (hv _ _ _ _ _ _ _ _ F d (fun a H1 ad1 hd1 s1 x T1 F1 r1 d1=>?_) e);show Vy _ _ (do
  let l←valueOrNone (evalOpt lo c.env)
  let u←holding [l] (valueOrNone (evalOpt hi c.env))
  let s←holding [l,u] (valueOrNone (evalOpt none c.env))
  newFields "slice" [l,u,s]) _ _ _
 refine Vi (QO lo hl _ _ _ _ _ _ _ _ F1 d1 (fun b H2 ad2 hd2 s2 y T2 F2 r2 d2=>Vi (V6 ?_)) (KE.tr e T1));refine QO hi hh _ _ _ _ _ _ _ _ F2 d2 (fun b H3 ad3 hd3 s3 z T3 F3 r3 d3=>Vi (V6 (Vp ?_))) (KE.tr (KE.tr e T1) T2);refine Wl ?_ (by show 3<=sizeLine+2;rw[Y7];decide);exact J6 V F3 (r1.mono (T2.ad.trans T3.ad)) (r2.mono T3.ad) r3 d3 (KV.tr (KV.tr (KV.tr q T1) T2) T3)
def cW(h:aK e=true):V1 (e::r) env=(false,eval e env)::V1 r env:=by
 induction e using Expr.casesOn<;>first|rfl|injection h
def mZ:ji cc c A loc (Wq (Wh pos (V1 [] c.env))) (fun H Q _=>Q [] H):=by
 intro H ad hd s Q E Qr Er F d q e;exact Vp (q _ _ _ _ _ _ (.refl _ _ _) F .nil d)
def kz(hs:aK e=true)(he:aC cc c A loc (eval e c.env) D1)(hr:ji cc c A loc (Wq (Wh pos (V1 r c.env))) DL):
  ji cc c A loc (Wq (Wh pos (V1 (e::r) c.env))) (fun H Q E=>D1 H (fun v H1=>DL H1 (fun vs H2=>Q (v::vs) H2) E) E):=by
 intro H ad hd s Q E Qr Er F d q e';rw[cW hs];show Vy _ _ (do
  let v←eval e c.env
  let here←if false=true then do
    if←Yu v then
     rule "star.not-iterable";raiseError"TypeError" s!"Value after * must be an iterable, not {← typeNameOf v}"
    collect v
   else pure [v]
  return here++(←holding here (Wq (Wh pos (V1 r c.env))))) _ _ _
 refine Vi (he _ _ _ _ _ _ _ _ F d (fun a H1 ad1 hd1 s1 x T1 F1 r1 d1=>?_) e');simp only[V0,if_false];refine Vi (Vp (Vi (V6 (hr _ _ _ _ _ _ _ _ F1 d1 (fun vs H2 ad2 hd2 s2 ys T2 F2 r2 d2=>Vp ?_) (KE.tr e' T1)))));exact q _ _ _ _ _ _ (T1.trans T2) F2 (.cons (r1.mono T2.ad) r2) d2
def Fw(h:ji cc c A loc (Wq (Wh pos (V1 es c.env))) DL):
  aC cc c A loc (eval (.Tuple es n pos) c.env) (fun H Q E=>DL H (fun vs H1=>vs.length<=fO/\Q (.ref H1.length) (H1++[.tup vs])) E):=by
 intro H ad hd s Q E Qr Er F d q e;refine Tuple_ (h _ _ _ _ _ _ _ _ F d (fun vs H1 ad1 hd1 s1 ys T1 F1 r1 d1=>?_) e);exact oJ F1 r1 d1.1 d1.2 (KV.tr q T1)
def De(h:ji cc c A loc (Wq (Wh pos (V1 es c.env))) DL):
  aC cc c A loc (eval (.List es pos) c.env) (fun H Q E=>DL H (fun vs H1=>vs.length<=fO/\Q (.ref H1.length) (H1++[.list vs])) E):=by
 intro H ad hd s Q E Qr Er F d q e;refine List_ (h _ _ _ _ _ _ _ _ F d (fun vs H1 ad1 hd1 s1 ys T1 F1 r1 d1=>?_) e);exact wN F1 r1 d1.1 d1.2 (KV.tr q T1)
end
section
variable{cc:CC}{c:FC}{A:VN}{Γ:cM}{k:Nat}{loc:aM}{sc:VZ}{H:AH}{ad:List Addr}{hd:Hid}{s:Vo}{h h':Heap}{fr:List (Addr×Obj)}
variable{H1:AH}{ad1:List Addr}{hd1:Hid}{Q:QE}{QB:Bool->AH->Prop}{E:AH->Prop}{Qr:Vq->Vo->Prop}{QBr:Bool->Vo->Prop}{Er:d_}
variable{D D1 D2 D3:ja}{T1 T2:vW}{DL:AH->(List AV->AH->Prop)->(AH->Prop)->Prop}
def FS.call(F:FS cc c loc H ad hd s)(ao:bx c A k):∃oL,g_ cc k c.hn c.hd0 A ((c.env.locals,oL)::c.fr) H ad hd s/\
  (∀H' ad' hd' s',Tr ad H hd ad' H' hd'->HR cc ((c.env.locals,oL)::c.fr) hd' ad' H' s'.heap->Ga cc s'->FS cc c loc H' ad' hd' s')/\
  (∀hd' ad' ea h,yM cc c.hn ((c.env.locals,oL)::c.fr) none hd' ad' ea h->yM cc c.hn c.fr (some c.env.locals) hd' ad' ea h):=by
 refine eD F.into fun oL hd0 back R=>?_;refine i8 oL ⟨ao.room,ao.units,?_,ao.hnd,ao.hn,R,F.hdl,F.oth,(by refine o1 F.ns fun m n _=>?_;exact WR (Xw F.above n.lt))⟩ (fun H' ad' hd' s' T R' o'=>?_) (fun hd' ad' ea h' fl=>?_)
 ·refine o1 ao.frames fun envs e1 e2=>?_;refine i0 envs e1 (fun e he=>?_);refine JV (e2 e he) fun k1 a e3 e4=>?_;refine i9 k1 a ?_;rcases e4 with rfl|⟨o,m,d⟩
  ·exact i8 oL e3 (Vl ..) hd0
  ·exact i8 o e3 (Vj _ m) d
 ·refine o8 (R'.frm _ (Vl ..)) fun sl e=>?_;exact back _ sl e _ _ _ _ T.ad (F.hdl.tr T) rfl R' o'
 ·have perm:(tot cc ((c.env.locals,oL)::c.fr) hd' ad').Perm (c.env.locals::tot cc c.fr hd' ad'):=by
   show(ad'++(c.env.locals::(c.fr.map (·.1)++_))).Perm _;exact Xh
  have fresh:∀a,cD cc ((c.env.locals,oL)::c.fr) none hd' ad' a->cD cc c.fr (some c.env.locals) hd' ad' a:=fun a f=>
   ⟨f.g,fun m=>f.t (perm.mem_iff.mpr (Vj _ m)),fun q=>f.t (perm.mem_iff.mpr (by(injection q with q;subst q);exact Vl ..))⟩
  refine Tx fl fun oe vs a b c' d e' f g=>?_;refine⟨oe,vs,a,b,c',d,e',fresh _ f,?_⟩;rcases g with g|⟨T,oT,ts,g1,g2,g3,g4,g5,g6⟩
  ·exact .inl g
  ·exact .inr ⟨T,oT,ts,g1,g2,g3,g4,g5,fresh _ g6⟩
def sL(F:FS cc c loc H ad hd s)(ao:bx c A k)(r:aw (VR ad) vs xs)
  (d:aH cc k c.hn f vs H ad hd (fun v H1=>bB H H1->Q v H1) (fun H1=>bB H H1->E H1))(q:KV cc c loc H ad hd Q Qr)(e:KE cc c loc H ad hd E Er):
  Vy (Vt cc.prog cc.w) A (W6 f xs) Qr Er s:=by
 refine eD (F.call ao) fun oL cAt back fly=>?_;refine wpAny_call (d c.hd0 A _ s xs _ cAt r (fun v H' ad' hd' s' x T R o rv qv=>?_) (fun H' ad' hd' s' ea T R o fl qe=>?_))
 ·exact q _ _ _ _ _ _ T (back _ _ _ _ T R o) rv (qv T.H)
 ·exact e _ _ _ _ _ T (back _ _ _ _ T R o) (fly _ _ _ _ fl) (qe T.H)
def iF(h:as.all aK=true):(Wh pos (V1 as env)).any (·.1)=false:=by
 induction as with
 |nil=>rfl
 |cons e r ih=>
  rw[XO,VU]at h;rw[cW h.1];show(false||(Wh pos (V1 r env)).any (·.1))=false;rw[ih h.2];rfl
def bD{P:Heap->Prop}(hs:as.all aK=true)
  (hk:∀h,P h->∃k,(k=XW\/k=Xz\/k=W')/\Looks (Vt cc.prog cc.w) h (ZG f) k)
  (h:Vy (Vt cc.prog cc.w) A (Wq (Wh pos (V1 as c.env))) (fun vs s₁=>P s₁.heap/\Vy (Vt cc.prog cc.w) A (W6 f (first++vs)) Qr Er s₁) Er s):
  Vy (Vt cc.prog cc.w) A (Xs pos f first (Wh pos (V1 as c.env)) []) Qr Er s:=by
 refine callWith_of (by rw[iF hs];rfl) hk ?_;induction as using Vr with
 |nil=>
  unfold evalArgs;show Vy _ A (Wq []>>=_) _ Er s;refine Vi (W3 h (fun vs s' h'=>?_) fun _ _ x=>x);refine V6 ?_;exact Vi (Vp (Vi (Vp (Vp h'))))
 |cons e r=>
  rw[XO,VU]at hs;rw[cW hs.1]at h⊢;exact evalArgs_plain h
def FS.K(F:FS cc c loc H ad hd s)(O:aO cc):cc.K.In s.heap:=O.inG.keeps F.hr.keep
def Iw(d:aH cc k hn f vs H ad hd Q E):aH cc k hn f vs H ad hd Q E:=d
def C'(O:aO cc)(V:az cc Γ)(ao:bx c A k)(hs:as.all aK=true)(hk:Zp cc.K (.ref a)=true)
  (he:eval (.Call fe as [] pos) c.env=(do Xs pos (←eval fe c.env) [] (Wh pos (V1 as c.env)) []))
  (hf:∀{H:AH}{ad:List Addr}{hd:Hid}{s:Vo}{Qr:Vq->Vo->Prop}{Er:d_},FS cc c loc H ad hd s->Qr (.ref a) s->Vy (Vt cc.prog cc.w) A (eval fe c.env) Qr Er s)
  (h:ji cc c A loc (Wq (Wh pos (V1 as c.env))) DL):
  aC cc c A loc (eval (.Call fe as [] pos) c.env) (fun H Q E=>DL H (fun vs H1=>cF Γ k c.hn a vs H1 Q E) E):=by
 intro H ad hd s Q E Qr Er F d q e;rw[he];refine Vi (hf F ?_);refine bD (P:=cc.K.In) hs (keeps_K hk) (h _ _ _ _ _ _ _ _ F d (fun vs H1 ad1 hd1 s1 xs T1 F1 r1 d1=>⟨F1.K O,?_⟩) e);exact sL F1 ao r1 (V.fn _ _ _ _ _ _ _ _ _ d1) (KV.tr q T1) (KE.tr e T1)
def uU(e:f=.ref g)(h:Heap)(x:∃o,h.get? g=some o/\o.data=.func fd):
  ∃k,(k=XW\/k=Xz\/k=W')/\Looks (Vt cc.prog cc.w) h (ZG f) k:=by
 subst e;refine o1 x fun o a b=>?_;refine i0 .frame (.inl rfl) ((Looks.ld (part:=none) a).andThen ?_);rw[b];exact .now
set_option tactic.hygienic true in
/-- f(..) of a def made on the way -/
def zO(V:az cc Γ)(ao:bx c A k){fe:Expr}(hs:as.all aK=true)
  (he:eval (.Call fe as [] pos) c.env=(do Xs pos (←eval fe c.env) [] (Wh pos (V1 as c.env)) []))
  (hf:aC cc c A loc (eval fe c.env) D)(h:ji cc c A loc (Wq (Wh pos (V1 as c.env))) DL)
  :aC cc c A loc (eval (.Call fe as [] pos) c.env) (fun H Q E=>D H (fun g H0=>DL H0 (fun vs H1=>jm Γ k c.hn g vs H1 Q E) E) E):=by
 intro H ad hd s Q E Qr Er F d q e;rw[he];refine Vi (hf _ _ _ _ _ _ _ _ F d (fun g H0 ad0 hd0 s0 gx T0 F0 r0 d0=>?_) e);refine bD (P:=fun h=>∃ga o fd,gx=.ref ga/\h.get? ga=some o/\o.data=.func fd) hs (fun h x=>?_) (h _ _ _ _ _ _ _ _ F0 d0 (fun vs H1 ad1 hd1 s1 xs T1 F1 r1 d1=>?_) (KE.tr e T0))
 ·refine Tz gx x fun ga o fd a b=>?_;exact uU rfl h (i0 o a b)
 ·obtain⟨i,cd,cl,rfl,hi1,d1⟩:=d1;refine jb gx r0 fun ga ea=>?_;have ea1:=aX T1.ad ea;refine⟨?_,sL F1 ao r1 (V.clos _ _ _ _ _ _ _ _ _ _ i ga hi1 ea1 d1) (KV.tr (KV.tr q T0) T1) (KE.tr (KE.tr e T0) T1)⟩;refine oZ fun zq=>?_;obtain⟨x,ob,e3,e4,ads,c',doc,pm,ctv,_,_,_,rfl⟩:=F1.hr.obj _ _ hi1;refine zq ?_;rw[ea1]at e3;(injection e3 with e3;subst e3);exact⟨ga,_,_,rfl,e4,rfl⟩
def eN(hc:bU o=false)(hl:(ap.endLine==pos.line)=true)(hn:as.length<29)(hs:as.all aK=true):
  eval (.Call (.Attribute o a ap) as [] pos) env=(do
   let ov←eval o env
   Yh ap.atName
   let(f,first)←holding [ov] (getMethod ov a (do return(←importBound o env).getD true))
   Xs pos f first (Wh pos (V1 as env)) []):=by
 have h1:eval (.Call (.Attribute o a ap) as [] pos) env=(do
   let ov←eval o env
   Yh ap.atName
   methodCall o a ap pos env ov (as.length+0) (Wh pos (V1 as env)) []):=by
  induction o using Expr.casesOn<;>first|(cases hc;done)|with_unfolding_all rfl
 have hform:methodCallForm (as.length+0) (Wh pos (V1 as env)) []=true:=by
  have h2:(Wh pos (V1 as env)).all (!·.1)=true:=by
   have:=iF (env:=env) (pos:=pos) hs;rw[List.all_eq_not_any_not]
   simpa using this
  unfold methodCallForm;rw[h2];simp only[List.all_nil,Bool.and_self,Z5,if_true,Nat.add_zero,Bool.true_and,decide_eq_true_eq];exact RT hn
 rw[h1];refine congrArg _ (funext fun ov=>congrArg _ (funext fun _=>?_));unfold methodCall;rw[hform];unfold methodCallPos;rw[hl];rfl
set_option tactic.hygienic true in
def FS.instAt(F:FS cc c loc H ad hd s)(r:VR ad g x)(d:qi g H P):P/\∃(a dx:Addr) (es:List (Nat×AV)) (ents:List DictEntry) (n:Nat),x=.ref a/\InstAt s.heap a (instObj cc.cls dx) cc.cls (some (YX ents n))/\aw (DE cc ad) es ents/\∀p∈es,p.1<8:=by
 obtain⟨i,dd,es,rfl,h1,h2,h3,h4⟩:=d;refine jb x r fun a ea=>?_;refine RB (F.inst ea h1 h2) fun dx ents n' e3 I e5 R=>?_;exact⟨h4,a,dx,es,ents,n',rfl,I,R,h3⟩
def zR(O:aO cc)(V:az cc Γ)(ao:bx c A k)(hc:bU o=false)(hl:(ap.endLine==pos.line)=true)(hn:as.length<29)(hs:as.all aK=true)
  (hm:cc.T.mt.lookup x=some f)(ho:aC cc c A loc (eval o c.env) D)(h:ji cc c A loc (Wq (Wh pos (V1 as c.env))) DL):
  aC cc c A loc (eval (.Call (.Attribute o x ap) as [] pos) c.env) (fun H Q E=>D H (fun g H0=>qi g H0 (DL H0 (fun vs H1=>cF Γ k c.hn f (g::vs) H1 Q E) E)) E):=by
 intro H ad hd s Q E Qr Er F d q e;rw[eN hc hl hn hs];refine Vi (ho _ _ _ _ _ _ _ _ F d (fun g H0 ad0 hd0 s0 gx T0 F0 r0 d0=>Vi (VY (Vi (V6 ?_)))) e);refine oZ fun zq=>?_;obtain⟨d0,a,dx,es,ents,n,rfl,I,R,hlt⟩:=F0.instAt r0 d0;obtain⟨m1,m2,m3,m4⟩:=O.meth x f hm;obtain⟨m,hF,L⟩:=F0.fr;refine zq ?_;have hno:getL x ents=some none:=EA R fun p hp=>m4 p.1 (hlt p hp);refine method_inst hF O.inG I (O.plain x) m1 m2 hno ?_;refine bD (P:=cc.K.In) hs (keeps_K m3) (h _ _ _ _ _ _ _ _ F0 d0 (fun vs H1 ad1 hd1 s1 xs T1 F1 r1 d1=>⟨F1.K O,?_⟩) (KE.tr e T0));exact sL F1 ao (.cons (r0.mono T1.ad) r1) (V.fn _ _ _ _ _ _ _ _ _ d1) (KV.tr (KV.tr q T0) T1) (KE.tr (KE.tr e T0) T1)
structure pD(cc:CC)(fI:Addr):Prop where
 make:makesIn cc.K cc.cls=true
 init:findIn cc.K (.ref cc.cls) (Vg "__init__")=some (some (.ref fI))
 fn:typeIn cc.K (.ref fI)=some (.type "function")
def CI(C:Addr)(rest:List Vq):(Code.builtin "type.__call__" ⟨.ref C::rest,[]⟩).cUnits=1:=by rfl
def Rq(A:VN)(C:Addr)(rest:List Vq):(A.under (Code.builtin "type.__call__" ⟨.ref C::rest,[]⟩)).frames=A.frames:=by rfl
def vn{a b:Addr}(h:(l++r).Nodup)(ha:a∉l++r)(hb:b∉l++r)(hab:a≠b):((l++[a,b])++r).Nodup:=by
 have h1:=iB h ha;have h2:b∉(l++[a])++r:=fun z=>by
  rcases mem_snoc z with z|z
  ·exact hab z.symm
  ·exact hb z
 have:=iB h1 h2
 rwa [Wn l [a] [b]]at this
def QC(V:az cc Γ)(O:aO cc)(MO:pD cc Γ.init)(F:FS cc c loc H ad hd s)(ao:bx c A k)(r:aw (VR ad) vs xs)
  (d:QA Γ k c.hn vs H Q E)(q:KV cc c loc H ad hd Q Qr)(e:KE cc c loc H ad hd E Er):
  Vy (Vt cc.prog cc.w) A (W6 (.ref cc.cls) xs) Qr Er s:=by
 refine kY d fun h2 d=>?_;refine o1 F.fr fun m hF L=>?_;refine wpAny_call (W.make_K hF F.news (F.K O) MO.make MO.init MO.fn fun x dx h' F' N' hlt hdx=>?_);have Ndx:=N' _ (Vj _ (Vl ..));have Nx:=N' _ (Vl ..);have kT:∀a∈tot cc c.fr hd ad,∀o,s.heap.get? a=some o->h'.get? a=some o:=News.kT (News.of_cons (News.of_cons N'));have fresh:∀a,(∀p∈trk s.heap (tot cc c.fr hd ad),p.1<a)->a∉tot cc c.fr hd ad:=fun a hl z=>by
  refine o8 (F.hr.live z) fun o' e'=>?_;exact WQ _ (hl (a,o') (ix.mpr ⟨z,e'⟩))
 have hdxT:=fresh dx hlt;have hxT:=fresh x fun p hp=>Nat.lt_trans (hlt p hp) hdx;have hlen:=F.hr.len;have F2:FS cc c loc (H++[.inst (H.length+1),.dict []]) (ad++[x,dx]) hd {s with heap:=h'}:=by
  refine⟨(i0 m F'.ns (L.mono (VA ..))),⟨F'.keep,by rw[VH,VH,hlen];rfl,vn F.hr.nodup hxT hdxT (Nat.ne_of_gt hdx),fun b hb=>?_,fun i ao' hi=>?_,fun p hp=>?_,fun p hp=>?_,F.hr.hok⟩,fun z=>?_,F.above,fun j y hj hy=>?_,
   F.hdl.tr (hd:=hd) (hd':=hd) ⟨VA ..,.snoc _ _,.refl _⟩,⟨F.oth.gens,F.oth.drawn,F.oth.os⟩⟩
  ·rcases Vs.mp hb with hb|hb
   ·rcases Vs.mp hb with hb|hb
    ·exact F.hr.new b (Vk _ hb)
    ·rcases Vv.mp hb with rfl|hb
     ·exact Nx.2.2
     ·rw[V8.mp hb];exact Ndx.2.2
   ·exact F.hr.new b (Vh _ hb)
  ·by_cases hlt':i<H.length
   ·rw[VF hlt']at hi;refine o6 (F.hr.obj i ao' hi) fun b ob e1 e2 r'=>?_;exact i1 b ob (aX (VA ..) e1) (kT _ (Vk _ (VP e1)) _ e2) (r'.mono (.refl _) (VA ..))
   ·rw[Vm (by exact ng hlt')]at hi;have hi2:i-H.length=0\/i-H.length=1:=by
     have:=(Vn.mp hi).1;simp only[VT,Za]at this;exact RU this
    rcases hi2 with h0|h1
    ·rw[h0]at hi;(injection hi with hi;subst hi);refine⟨x,_,?_,Nx.1,dx,?_,rfl⟩
     ·rw[Vm (by exact KW hlen hlt'),show i-ad.length=0 by exact RV h0 hlen];rfl
     ·rw[Vm (by exact RW hlen),show H.length+1-ad.length=1 by exact RX hlen];rfl
    ·rw[h1]at hi;(injection hi with hi;subst hi);refine⟨dx,_,?_,Ndx.1,[],0,rfl,.nil⟩;rw[Vm (by exact KW hlen hlt'),show i-ad.length=1 by exact RY h1 hlen];rfl
  ·refine o8 (F.hr.frm p hp) fun sl z=>?_;exact i4 sl (kT _ (Vh _ (Vk _ (Vz hp))) _ z)
  ·exact kT _ (Vh _ (Vh _ (Vz hp))) _ (F.hr.hid p hp)
  ·rcases Vs.mp z with z|z
   ·rcases Vs.mp z with z|z
    ·exact F.own (Vk _ z)
    ·rcases Vv.mp z with z|z
     ·exact Nx.2.1 z.symm
     ·exact Ndx.2.1 (V8.mp z).symm
   ·exact F.own (Vh _ z)
  ·refine o6 (F.cells j y hj hy) fun a' i e1 e2 e3=>?_;exact i1 a' i e1 e2 (aX (VA ..) e3)
 have T2:Tr ad H hd (ad++[x,dx]) (H++[.inst (H.length+1),.dict []]) hd:=⟨VA ..,.snoc _ _,.refl _⟩
 refine eD (F2.call ao) fun oL cAt back fly=>?_;have cAt2:g_ cc (k-2) c.hn c.hd0 (A.under (.builtin "type.__call__" ⟨.ref cc.cls::xs,[]⟩)) ((c.env.locals,oL)::c.fr) (H++[.inst (H.length+1),.dict []]) (ad++[x,dx]) hd {s with heap:=h'}:=by
  refine⟨?_,?_,cAt.frames,cAt.hnd,cAt.hn,cAt.hr,cAt.hdl,cAt.oth,cAt.sz⟩
  ·have:=cAt.room;show A.depth+1+(k-2)<WC;exact RZ this h2
  ·have:=cAt.units;show A.units+(Code.builtin "type.__call__" ⟨.ref cc.cls::xs,[]⟩).cUnits+10*(k-2)<cLine;rw[CI];exact R3 this h2
 refine V.fn _ _ _ _ _ _ _ _ _ d c.hd0 _ _ _ (.ref x::xs) _ cAt2 (.cons (i0 x ?_ rfl) (r.mono fun _ _ z=>z.mono (VA ..))) (fun v H' ad' hd' s' y T R o rv qv=>?_) (fun H' ad' hd' s' ea T R o fl qe=>?_)
 ·rw[Vm (by exact LB hlen),show H.length-ad.length=0 by exact LF hlen];rfl
 ·refine kY qv fun q1 q2=>?_;refine⟨?_,?_⟩
  ·subst q1;exact rv
  ·refine q (.ref H.length) _ _ _ _ _ (T2.trans T) (back _ _ _ _ T R o) (i0 x ?_ rfl) (q2 T.H);refine aX T.ad ?_;rw[Vm (by exact LB hlen),show H.length-ad.length=0 by exact LF hlen];rfl
 ·exact e _ _ _ _ _ (T2.trans T) (back _ _ _ _ T R o) (fly _ _ _ _ fl) (qe T.H)
def J5(O:aO cc)(V:az cc Γ)(MO:pD cc Γ.init)(ao:bx c A k)(hs:as.all aK=true)(hk:Zp cc.K (.ref cc.cls)=true)
  (he:eval (.Call fe as [] pos) c.env=(do Xs pos (←eval fe c.env) [] (Wh pos (V1 as c.env)) []))
  (hf:∀{H:AH}{ad:List Addr}{hd:Hid}{s:Vo}{Qr:Vq->Vo->Prop}{Er:d_},FS cc c loc H ad hd s->Qr (.ref cc.cls) s->Vy (Vt cc.prog cc.w) A (eval fe c.env) Qr Er s)
  (h:ji cc c A loc (Wq (Wh pos (V1 as c.env))) DL):
  aC cc c A loc (eval (.Call fe as [] pos) c.env) (fun H Q E=>DL H (fun vs H1=>QA Γ k c.hn vs H1 Q E) E):=by
 intro H ad hd s Q E Qr Er F d q e;rw[he];refine Vi (hf F ?_);refine bD (P:=cc.K.In) hs (keeps_K hk) (h _ _ _ _ _ _ _ _ F d (fun vs H1 ad1 hd1 s1 xs T1 F1 r1 d1=>⟨F1.K O,?_⟩) e);exact QC V O MO F1 ao r1 d1 (KV.tr q T1) (KE.tr e T1)
end
section
def q8:XX Zv "proto.unchain"=some VD.«proto.unchain»:=XS (by kernel_rfl)
def DQ:plainId "proto.unchain"=true:=by decide+kernel
def cJ(A:VN)(h:Heap):Prop:=A.handled=none\/∃a0 o0 vs,A.handled=some (.ref a0)/\h.get? a0=some o0/\o0.data=.fields vs/\vs[2]?=some .none
section
variable{prog:WU}{w:XC}{A:VN}{s:Vo}
def xg{o0:Obj}(h0:s.heap.get? a0=some o0)(hd:o0.data=.fields vs)(h2:vs[2]?=some .none)(hq:Q .none s):
  Vy (Vt prog w) A (runValue (.builtin "proto.unchain" ⟨[.ref e,.ref a0,.ref a0,.bool false],[]⟩)) Q E s:=by
 refine wpAny_runValue (codeAny_builtin q8 ?_);unfold VD.«proto.unchain»;show Vy _ _ (field (.ref a0) 2>>=_) _ _ s;refine Vi (WA h0 hd h2 ?_);exact Vp hq
def p_(o:Obj)(f:Array Vq->Array Vq):(o.mapFields f).dict=o.dict:=by
 obtain⟨c,d,dt,sl⟩:=o;induction dt using Data.casesOn<;>rfl
def oM{α:Type}{e:Addr}{oe:Obj}{vs:Array Vq}{Q:α->Vo->Prop}{E:Vq->Vo->Prop}(C:cJ A s.heap)(hne:A.handled≠some (.ref e))(he:s.heap.get? e=some oe)(hd:oe.data=.fields vs)(hsz:2<vs.size)
  (q:∀h' oe' vs',h'.get? e=some oe'->oe'.cls=oe.cls->oe'.dict=oe.dict->oe'.data=.fields vs'->vs'.size=vs.size->(∀i,i≠2->vs'[i]?=vs[i]?)->(A.handled=none->vs'=vs)->Wa e s.heap h'->E (.ref e) {s with heap:=h'}):
  Vy (Vt prog w) A (raiseNew (.ref e):Sem α) Q E s:=by
 delta raiseNew;dsimp only;refine Vi (wpAny_handled ?_);rcases C with h0|⟨a0,o0,vs0,h0,h1,h2,h3⟩
 ·rw[h0];exact Vi (Vp (wpAny_throw (q _ _ _ he rfl rfl hd rfl (fun _ _=>rfl) (fun _=>rfl) (fun _ _ _ x=>x))))
 ·rw[h0];have hb:(Wo a0 !=Wo e)=true:=by
   rw[h0]at hne;simp only[ne_eq,Option.some.injEq,Value.ref.injEq]at hne;simp[hne]
  dsimp only;rw[if_pos hb];refine Vi (V6 (xg h1 h2 h3 ?_));have hself:=WL (Wc (·.setIfInBounds 2 (Wo a0))) he (Zi (YK hd _));show Vy _ A (setField (.ref e) 2 (.ref a0)>>=fun _=>throw (Wo e)) Q E s;refine Vi (Xq he hd hsz (wpAny_throw (q _ _ _ hself (Obj.cls_mapFields ..) (p_ ..) (YK hd _) (by simp) (fun i hi=>?_) (fun z=>by rw[h0]at z;injection z) (Xx ..).extBut)));rw[ZT (XD hi)]
def cJ.ext(C:cJ A h)(x:Wa b h h')(hb:A.handled≠some (.ref b)):cJ A h':=by
 rcases C with h0|⟨a0,o0,vs0,h0,h1,h2,h3⟩
 ·exact .inl h0
 ·exact .inr ⟨a0,o0,vs0,h0,x _ _ (fun z=>hb (z▸h0)) h1,h2,h3⟩
def cJ.live(C:cJ A h)(x:h.get? b=none):A.handled≠some (.ref b):=by
 rcases C with h0|⟨a0,o0,vs0,h0,h1,h2,h3⟩
 ·rw[h0];exact fun z=>by injection z
 ·rw[h0];intro z;cases z;rw[x]at h1;injection h1
def cJ.in1(C:cJ A h):cJ A.in1 h:=C
def oU(C:cJ A s.heap)(hb:A.handled≠some (.ref it))
  (hit:IsTupIter s.heap it t i)(ht:IsTup s.heap t items)(hx:items[i]?=none) (hQ:∀h',Wa it s.heap h'->Q none {s with heap:=h'}):Vy (Vt prog w) A (pyNext (.ref it)) Q E s:=by
 have hit0:=hit;refine eD hit fun oi hi1 hi2 hi3=>?_;refine TA ht fun ot ht1 _ nt ht2=>?_;unfold pyNext;refine Vi (Z0 (Ze (name:=Vg "__next__") hit0.typeIs slot_tupleiter_next
  (Zd slot_tupleiter_next hit0.typeIs entry_tupleiter_next ?_ (args_tupleiter_next _))))
 show Vy _ _ (field (.ref it) 0>>=_) _ _ s;refine Vi (WA hi1 hi3 (x:=.ref t) rfl ?_);rw[if_neg (show¬((Wo t==We)=true)from V9)];show Vy _ _ (field (.ref it) 1>>=_) _ _ s;refine Vi (WA hi1 hi3 (x:=.int i 0) rfl ?_);show Vy _ _ (seqItems? (.ref t)>>=_) _ _ s;refine Vi (wpAny_seqItems ht1 ht2 ?_);simp only[WH,hx];refine Vi (Yt (Vi (Xq hi1 hi3 (by simp) ?_)));show Vy _ _ (newExc (.type "StopIteration") []>>=_) _ _ _;refine Vi ?_;simp only[newExc,newTuple];refine Vi (Wl ?_ LU);refine Vi (m:=ZI _ _) (WM (a:=We) (by first|rfl|(simp only[ZI];rfl)) ?_);refine Wl ?_ (by size_fits);have x1:Wa it s.heap (s.heap.update it (Wc (·.setIfInBounds 0 .none))):=(Xx ..).extBut;have x2:=(x1.push {cls:=.type "tuple",dict:=none,data:=.seq [].toArray})
 have C2:=C.ext x2 hb;refine oM (A:=A.in1) ((C2.ext (b:=it) (fun _ _ _ z=>Vx _ z) hb).in1) (C2.live (Wd (VB _))) (V_ _ rfl) rfl ?_ (fun h' oe' vs' h1 h2 h3 h4 h5 h6 h7 h8=>?_)
 ·simp only[Wm,VH,Array.size_append,VT];exact R4
 ·refine Vi (XQ (T:="StopIteration") (b:=true) (i0 _ h1 h2) isSubtype_stop ?_);refine Vp (hQ _ fun b o hb' e=>h8 b o ?_ ?_)
  ·intro z;have:=x2 b o hb' e;rw[z,Wd (VB _)]at this;injection this
  ·exact Vx _ (x2 b o hb' e)
def kA(C:cJ A s.heap)(ht:IsTup s.heap t items)
  (hQ:∀h',(∀b o,s.heap.get? b=some o->h'.get? b=some o)->Q items.toList {s with heap:=h'}):Vy (Vt prog w) A (unpackItems (.ref t) items.size none) Q E s:=by
 have hne:t≠s.heap.objs.size:=WO ht.lt;have hfresh:=C.live (b:=s.heap.objs.size) (Wd (VB _));unfold unpackItems;refine Vi ?_;unfold Yu;refine Vi (Wg ht.typeIs slot_tuple_iter.lookup (Vp ?_));simp only[V0,if_false];refine Vi (V6 (iter_tuple ht ?_));refine Vi (V6 (draw_tuple hne items.size 0 _ _ (i8 _ (V_ _ rfl) rfl rfl) (ht.push _) R5 fun h₁ hit hs=>?_));have hall:List.take items.size (List.drop 0 items.toList)=items.toList:=by
  rw[List.drop_zero,←Wu,List.take_length]
 rw[hall,if_neg (by simp)];have x1:Wa s.heap.objs.size s.heap h₁:=fun b o hb e=>hs.extBut b o hb (Vx _ e);have ht₁:IsTup h₁ t items:=ht.extBut x1 hne;refine Vi (V6 (oU (s:={s with heap:=h₁}) (C.ext x1 hfresh) hfresh hit ht₁ (by simp) fun h₂ x2=>?_));simp only[YC,V0,if_false];refine Vp (hQ h₂ fun b o e=>?_);have hb:b≠s.heap.objs.size:=fun z=>by rw[z,Wd (VB _)]at e;injection e
 exact x2 b o hb (x1 b o hb e)
end
end
section
variable{cc:CC}{c:FC}{A:VN}{Γ:cM}{k:Nat}{loc loc1:aM}{sc:VZ}{H:AH}{ad:List Addr}{hd:Hid}{s:Vo}{h h':Heap}{fr:List (Addr×Obj)}
variable{H1:AH}{ad1:List Addr}{hd1:Hid}{Q:QE}{QB:Bool->AH->Prop}{E:AH->Prop}{Qr:Vq->Vo->Prop}{QBr:Bool->Vo->Prop}{Er:d_}
variable{D D1 D2 D3:ja}{T1 T2:vW}
def FS.chain(F:FS cc c loc H ad hd s)(ao:bx c A k):cJ A s.heap:=by
 induction q:c.hd0 using Option.casesOn with
 |none=>left;rw[ao.hnd,q];rfl
 |some a0=>
  right;refine o1 (F.hdl a0 q) fun i e1 e2=>?_;refine UM (F.hr.obj _ _ e2) fun a o e3 e4 vs e5 e6 e7 e8=>?_;rw[e1]at e3;(injection e3 with e3;subst e3);exact⟨a0,o,vs,by rw[ao.hnd,q];rfl,e4,e6,e8⟩
def FS.store(F:FS cc c loc H ad hd s)(O:aO cc)(hm:dk cc.T.nm ad loc m)(hx:cc.T.nm[i]?=some x)(r:VR ad v u)
  (n':h'.Ns c.env.locals (fun y=>if y=x then some u else m y))(sb:X7 c.env.locals s.heap h'):FS cc c (st i v loc) H ad hd {s with heap:=h',toks:=tk}:=by
 refine⟨(i0 _ n' (fun j w e=>?_)),F.hr.but F.own F.ownG sb.extBut,F.own,F.above,F.cells,F.hdl,⟨F.oth.gens,F.oth.drawn,F.oth.os⟩⟩;rw[aP]at e
 split at e
 ·rename_i hj;(injection e with e;subst e);subst hj;exact i1 x u hx (by simp) r
 ·rename_i hj;refine o6 (hm j w e) fun y z h1 h2 h3=>?_;refine i1 y z h1 ?_ h3;have:y≠x:=fun q=>hj ((ZP (Vn.mp h1).1 O.nm).mp (by rw[h1,hx,q]));simp[this,h2]
def RP(ad:List Addr):yK->Flow->Prop
 |.next,f=>f=.next
 |.brk,f=>f=.brk
 |.cont,f=>f=.cont
 |.ret v,f=>∃x,f=.ret x/\VR ad v x
def KF(cc:CC)(c:FC)(H:AH)(ad:List Addr)(hd:Hid)(Q:QS)(Qr:Flow->Vo->Prop):Prop:=
 ∀fl loc' H' ad' hd' s' f,Tr ad H hd ad' H' hd'->FS cc c loc' H' ad' hd' s'->RP ad' fl f->Q fl loc' H'->Qr f s'
def KS(cc:CC)(c:FC)(H:AH)(ad:List Addr)(hd:Hid)(E:ES)(Er:d_):Prop:=
 ∀loc' H' ad' hd' s' ea,Tr ad H hd ad' H' hd'->FS cc c loc' H' ad' hd' s'->yM cc c.hn c.fr (some c.env.locals) hd' ad' ea s'.heap->E loc' H'->Er (.ref ea) s'
variable{QF:QS}{ES1:ES}{QFr:Flow->Vo->Prop}
def KF.tr(K:KF cc c H ad hd QF QFr)(T:Tr ad H hd ad1 H1 hd1):KF cc c H1 ad1 hd1 QF QFr:=fun fl l H' ad' hd' s' f T'=>K fl l H' ad' hd' s' f (T.trans T')
def KS.tr(K:KS cc c H ad hd ES1 Er)(T:Tr ad H hd ad1 H1 hd1):KS cc c H1 ad1 hd1 ES1 Er:=fun l H' ad' hd' s' ea T'=>K l H' ad' hd' s' ea (T.trans T')
def KS.ke(K:KS cc c H ad hd ES1 Er)(loc:aM):KE cc c loc H ad hd (ES1 loc) Er:=fun H' ad' hd' s' ea T F fl e=>K loc H' ad' hd' s' ea T F fl e
def KF.next(K:KF cc c H ad hd QF QFr)(T:Tr ad H hd ad1 H1 hd1)(F:FS cc c loc1 H1 ad1 hd1 s)(q:QF .next loc1 H1):QFr .next s:=K .next _ _ _ _ _ _ T F rfl q
def KF.brk(K:KF cc c H ad hd QF QFr)(T:Tr ad H hd ad1 H1 hd1)(F:FS cc c loc1 H1 ad1 hd1 s)(q:QF .brk loc1 H1):QFr .brk s:=K .brk _ _ _ _ _ _ T F rfl q
def KF.cont(K:KF cc c H ad hd QF QFr)(T:Tr ad H hd ad1 H1 hd1)(F:FS cc c loc1 H1 ad1 hd1 s)(q:QF .cont loc1 H1):QFr .cont s:=K .cont _ _ _ _ _ _ T F rfl q
def KF.ret(K:KF cc c H ad hd QF QFr)(T:Tr ad H hd ad1 H1 hd1)(F:FS cc c loc1 H1 ad1 hd1 s){v:AV}{x:Vq}(r:VR ad1 v x)(q:QF (.ret v) loc1 H1):QFr (.ret x) s:=K (.ret v) _ _ _ _ _ _ T F (i0 x rfl r) q
abbrev sx:=aM->AH->QS->ES->Prop
def bc(cc:CC)(c:FC)(A:VN)(t:Sem Flow)(D:sx):Prop:=
 ∀(loc:aM) (H:AH) (ad:List Addr) (hd:Hid) (s:Vo) (Q:QS) (E:ES) (Qr:Flow->Vo->Prop) (Er:d_),
  FS cc c loc H ad hd s->D loc H Q E->Xv (Vt cc.prog cc.w) A c.env Er->KF cc c H ad hd Q Qr->KS cc c H ad hd E Er->Vy (Vt cc.prog cc.w) A t Qr Er s
variable{DS DSa DSb:sx}
def vC:bc cc c A (Wt [] c.env) (fun loc H Q _=>Q .next loc H):=by
 intro loc H ad hd s Q E Qr Er F d po q e;exact Xe (KF.next q (.refl _ _ _) F d)
def n6{st:Stmt}(h1:bc cc c A (exec st c.env) DSa)(h2:bc cc c A (Wt rest c.env) DSb):
  bc cc c A (Wt (st::rest) c.env) (fun loc H Q E=>DSa loc H (fun fl loc1 H1=>match fl with
   |.next=>DSb loc1 H1 Q E
   |fl=>Q fl loc1 H1) E):=by
 intro loc H ad hd s Q E Qr Er F d po q e;refine Zc (h1 _ _ _ _ _ _ _ _ _ F d po (fun fl loc1 H1 ad1 hd1 s1 f T1 F1 r1 d1=>?_) e);induction fl using yK.casesOn with
 |next=>subst r1;exact h2 _ _ _ _ _ _ _ _ _ F1 d1 po (KF.tr q T1) (KS.tr e T1)
 |brk=>subst r1;exact KF.brk q T1 F1 d1
 |cont=>subst r1;exact KF.cont q T1 F1 d1
 |ret v=>refine wV f r1 fun x r=>?_;exact KF.ret q T1 F1 r d1
def Fp{DT:aM->vW}(ht:∀loc,bZ cc c A loc (VM t c.env (eval t c.env)) (DT loc))(ha:bc cc c A (Wt a c.env) DSa)(hb:bc cc c A (Wt b c.env) DSb):
  bc cc c A (exec (.If t a b pos) c.env) (fun loc H Q E=>DT loc H (fun t H1=>if t then DSa loc H1 Q E else DSb loc H1 Q E) (E loc)):=by
 intro loc H ad hd s Q E Qr Er F d po q e;refine wpAny_If (ht loc _ _ _ _ _ _ _ _ F d (fun v H1 ad1 hd1 s1 T1 F1 d1=>?_) (KS.ke e loc));induction v using Vu with
 |true=>exact ha _ _ _ _ _ _ _ _ _ F1 d1 po (KF.tr q T1) (KS.tr e T1)
 |false=>exact hb _ _ _ _ _ _ _ _ _ F1 d1 po (KF.tr q T1) (KS.tr e T1)
def C7:bc cc c A (exec (.Break pos) c.env) (fun loc H Q _=>Q .brk loc H):=by
 intro loc H ad hd s Q E Qr Er F d po q e;exact wpAny_Break (KF.brk q (.refl _ _ _) F d)
def zH:bc cc c A (exec (.Continue pos) c.env) (fun loc H Q _=>Q .cont loc H):=by
 intro loc H ad hd s Q E Qr Er F d po q e;exact wpAny_Continue (KF.cont q (.refl _ _ _) F d)
def zK:bc cc c A (exec (.Pass pos) c.env) (fun loc H Q _=>Q .next loc H):=by
 intro loc H ad hd s Q E Qr Er F d po q e;exact wpAny_Pass (KF.next q (.refl _ _ _) F d)
def C8{DV:aM->ja}(hx:∀loc,aC cc c A loc (eval x c.env) (DV loc)):
  bc cc c A (exec (.Return (some x) pos) c.env) (fun loc H Q E=>DV loc H (fun v H1=>Q (.ret v) loc H1) (E loc)):=by
 intro loc H ad hd s Q E Qr Er F d po q e;show Vy _ A (do Yh pos;return .ret (←eval x c.env)) Qr Er s;refine Vi (VY (Vi (hx loc _ _ _ _ _ _ _ _ F d (fun v H1 ad1 hd1 s1 y T1 F1 r1 d1=>Vp ?_) (KS.ke e loc))));exact KF.ret q T1 F1 r1 d1
def zL:bc cc c A (exec (.Return none pos) c.env) (fun loc H Q _=>Q (.ret .none) loc H):=by
 intro loc H ad hd s Q E Qr Er F d po q e;show Vy _ A (do Yh pos;return .ret .none) Qr Er s;exact Vi (VY (Vp (KF.ret q (.refl _ _ _) F (v:=.none) rfl d)))
def w8{DT:aM->vW}(ht:∀loc,bZ cc c A loc (VM t c.env (eval t c.env)) (DT loc))(hb:bc cc c A (Wt b c.env) DSb):
  bc cc c A (exec (.While t b [] pos) c.env) (fun loc H Q E=>∃(I:Nat->aM->AH->Prop)(n:Nat),I n loc H/\∀(n:Nat)(loc1:aM)(H1:AH),bB H H1->I n loc1 H1->
   DT loc1 H1 (fun t H2=>if t then DSb loc1 H2 (fun fl loc2 H3=>match fl with
     |.next=>∃m,m<n/\I m loc2 H3
     |.cont=>∃m,m<n/\I m loc2 H3
     |.brk=>Q .next loc2 H3
     |.ret v=>Q (.ret v) loc2 H3) E else Q .next loc1 H2) (E loc1)):=by
 intro loc H ad hd s Q E Qr Er F d po q e;refine o2 d fun I n i0 step=>?_;refine wpAny_While (codeAny_whileLoop (fun n s'=>∃loc1 H1 ad1 hd1,Tr ad H hd ad1 H1 hd1/\FS cc c loc1 H1 ad1 hd1 s'/\I n loc1 H1) (fun n s' hI=>?_) n ⟨loc,H,ad,hd,.refl _ _ _,F,i0⟩);refine Us hI fun loc1 H1 ad1 hd1 T1 F1 i1=>?_;refine wpAny_passesOwn po (ht loc1 _ _ _ _ _ _ _ Er F1 (step n loc1 H1 T1.H i1) (fun v H2 ad2 hd2 s2 T2 F2 d2=>?_) (KS.ke (KS.tr e T1) loc1));induction v using Vu with
 |true=>
  simp only[if_true]at d2⊢;refine wpAny_passesOwn po (hb _ _ _ _ _ _ _ _ _ F2 d2 po (fun fl loc3 H3 ad3 hd3 s3 f T3 F3 r3 d3=>?_) (KS.tr (KS.tr e T1) T2));have T13:=(T1.trans T2).trans T3;induction fl using yK.casesOn with
  |next=>subst r3;refine o1 d3 fun m hm i3=>?_;exact⟨m,hm,loc3,H3,ad3,hd3,T13,F3,i3⟩
  |cont=>subst r3;refine o1 d3 fun m hm i3=>?_;exact⟨m,hm,loc3,H3,ad3,hd3,T13,F3,i3⟩
  |brk=>subst r3;exact KF.next q T13 F3 d3
  |ret v=>refine wV f r3 fun x r=>?_;exact KF.ret q T13 F3 r d3
 |false=>
  simp only[V0,if_false]at d2⊢;exact Xe (KF.next q (T1.trans T2) F2 d2)
end
section
variable{cc:CC}{c:FC}{A:VN}{Γ:cM}{k:Nat}{loc loc1:aM}{sc:VZ}{H:AH}{ad:List Addr}{hd:Hid}{s:Vo}{h h':Heap}{fr:List (Addr×Obj)}
variable{H1:AH}{ad1:List Addr}{hd1:Hid}{Q:QE}{QB:Bool->AH->Prop}{E:AH->Prop}{Qr:Vq->Vo->Prop}{QBr:Bool->Vo->Prop}{Er:d_}
variable{D D1 D2 D3:ja}{T1 T2:vW}{QF:QS}{ES1:ES}{QFr:Flow->Vo->Prop}{DS DSa DSb:sx}{QU:Unit->Vo->Prop}
def wO(eo:ay c):(c.env.scope.kind==.class||(c.env.scope.kind==.module&&c.env.locals !=c.env.globals))=false:=by rw[eo.kind];rfl
def df(O:aO cc)(eo:ay c)(F:FS cc c loc H ad hd s)(hx:cc.T.nm[i]?=some x)(hl:c.env.scope.names.lookup x=some .local)(r:VR ad v u)
  (q:∀s',FS cc c (st i v loc) H ad hd s'->QU () s'):Vy (Vt cc.prog cc.w) A (ZM c.env x u) QU Er s:=by
 refine o1 F.ns fun m n L=>?_;exact wpAny_storeName_local hl n (fun h' n' sb=>q _ (F.store O L hx r n' sb)) (wO eo)
def FS.relk(F:FS cc c loc H ad hd s)(e:∀j,lk j loc1=lk j loc):FS cc c loc1 H ad hd s:=by
 refine o1 F.ns fun m n L=>?_;exact⟨(i0 m n (fun j v hj=>L j v (by rw[←e];exact hj))),F.hr,F.own,F.above,F.cells,F.hdl,F.oth⟩
structure la(cc:CC)(c:FC)(i:Nat)(x:Str):Prop where
 nm:cc.T.nm[i]?=some x
 lo:c.env.scope.names.lookup x=some .local
noncomputable def m8(loc:aM)(l:List (Nat×AV)):aM:=l.foldl (fun l p=>st p.1 p.2 l) loc
def sr(O:aO cc)(eo:ay c)(hst:∀x u s' QU',Vy (Vt cc.prog cc.w) A (ZM c.env x u) QU' Er s'->Vy (Vt cc.prog cc.w) A (stor x u) QU' Er s')
  (hn:aw (la cc c) is xs):∀(vs:List AV)(us:List Vq)(loc:aM)(s:Vo),FS cc c loc H ad hd s->aw (VR ad) vs us->vs.length=is.length->
   (∀s',FS cc c (m8 loc (is.zip vs)) H ad hd s'->QU () s')->Vy (Vt cc.prog cc.w) A (WT (xs.map stor) us) QU Er s:=by
 induction hn with
 |nil=>
  intro vs us loc s F r hlen q;show Vy _ A (WT [] _) QU Er s;have:WT [] us=pure ():=by induction us using Vr<;>rfl
  rw[this];exact Vp (q _ F)
 |cons n1 n2 ih=>
  intro vs us loc s F r hlen q;cases r with
  |nil=>injection hlen
  |cons r1 r2=>
   refine Vi (V6 (hst _ _ _ _ (df O eo F n1.nm n1.lo r1 fun s' F'=>?_)));exact ih _ _ _ _ F' r2 (YT hlen) q
theorem qz(j:Nat):∀(l:List (Nat×AV))(loc:aM),(l.map (·.1)).Nodup->lk j (m8 loc l)=match l.lookup j with|some v=>some v|none=>lk j loc
 |[],_,_=>rfl
 |(i,v)::r,loc,hn=>by
  rw[VL,VQ]at hn;show lk j (m8 (st i v loc) r)=_;rw[qz j r _ hn.2];by_cases h:j=i
  ·subst h;have hno:r.lookup j=none:=by
    rw[List.lookup_eq_none_iff];intro p hp;simp only[bne_iff_ne,ne_eq];exact fun z=>hn.1 (z▸(Vz (f:=Wr) hp:p.1∈_))
   rw[hno];simp[Yn,aP]
  ·have:(j==i)=false:=by simpa using h
   simp only[Yn,this];induction r.lookup j using Option.casesOn with
   |some w=>rfl
   |none=>simp[aP,h]
def qA(j:Nat){l:List (Nat×AV)}(hn:(l.map (·.1)).Nodup):l.reverse.lookup j=l.lookup j:=by
 induction l with
 |nil=>rfl
 |cons p r ih=>
  obtain⟨i,v⟩:=p;rw[VL,VQ]at hn;rw[Wv,List.lookup_append,ih hn.2];by_cases h:j=i
  ·subst h;have hno:r.lookup j=none:=by
    rw[List.lookup_eq_none_iff];intro p hp;simp only[bne_iff_ne,ne_eq];exact fun z=>hn.1 (z▸(Vz (f:=Wr) hp:p.1∈_))
   simp[hno,Yn]
  ·have:(j==i)=false:=by simpa using h
   simp[Yn,this]
def kZ(loc:aM){l:List (Nat×AV)}(hn:(l.map (·.1)).Nodup)(j:Nat):lk j (m8 loc l)=lk j (m8 loc l.reverse):=by
 rw[qz j l loc hn,qz j l.reverse loc (by rw[List.map_reverse];exact(List.reverse_perm _).nodup_iff.mpr hn),qA j hn]
set_option tactic.hygienic true in
/-- the targets of an assignment to a row of names -/
theorem fH(hsc:aN sc c.env.scope):∀{es:List Expr}{is:List Nat},dg cc.T sc es=some is->∃xs:List (Str×Pos),es=xs.map (fun p=>WV p.1 p.2)/\aw (la cc c) is (xs.map (·.1))
 |[],_,e=>by(injection e with e;subst e);exact i0 ([]) rfl .nil
 |e::r,is,h=>by
  induction e using Expr.casesOn with
  |Name x p=>
   obtain⟨i,h1,h⟩:=Option.bind_eq_some_iff.mp (show(bV cc.T sc x).bind (fun i=>(dg cc.T sc r).map (i::·))=some is from h);obtain⟨l,h2,rfl⟩:=VK.mp h;refine wV r (fH hsc h2) fun xs a=>?_;unfold bV at h1
   split at h1
   ·rename_i hl;have hl:=beq_iff_eq.mp hl;refine i0 ((x,p)::xs) rfl (.cons ⟨pos?_get h1,?_⟩ a);rcases hsc x with z|z
    ·rw[z];exact hl
    ·rw[hl]at z;cases z.1
   ·injection h1
  |_=>injection h
theorem dq:∀xs:List (Str×Pos),(YY (xs.map fun p=>WV p.1 p.2) env).map (·.2)=xs.map (fun p=>assign (.Name p.1 p.2) env)/\(YY (xs.map fun p=>WV p.1 p.2) env).length=xs.length/\
  (YY (xs.map fun p=>WV p.1 p.2) env).findIdx? (·.1)=none
 |[]=>⟨rfl,rfl,rfl⟩
 |p::r=>by
  refine qX (dq (env:=env) r) fun a b d=>?_;refine⟨?_,?_,?_⟩
  ·show _::_=_::_;rw[a]
  ·show _+1=_+1;rw[b]
  ·rw[List.findIdx?_eq_none_iff]at d⊢;intro x hx;rcases Vv.mp (show x∈(false,assign (.Name p.1 p.2) env)::YY (r.map fun p=>WV p.1 p.2) env from hx)with rfl|hx
   ·rfl
   ·exact d x hx
set_option backward.match.sparseCases true in
theorem names_filter{env:Env}:∀xs:List (Str×Pos),((xs.map fun p=>WV p.1 p.2).filterMap fun
   |.Name id pos=>if env.kindOf id==some .local&&pos.line==line then some id else none
   |_=>none).length≠xs.length\/((xs.map fun p=>WV p.1 p.2).filterMap fun
   |.Name id pos=>if env.kindOf id==some .local&&pos.line==line then some id else none
   |_=>none)=xs.map (·.1)
 |[]=>.inr rfl
 |p::r=>by
  have le:∀xs:List (Str×Pos),((xs.map fun p=>WV p.1 p.2).filterMap fun
   |.Name id pos=>if env.kindOf id==some .local&&pos.line==line then some id else none
   |_=>none).length<=xs.length:=fun xs=>V4 (List.length_filterMap_le _ _) (by rw[VI];exact VB _)
  rw[VL,List.filterMap_cons];by_cases hc:(env.kindOf p.1==some .local&&p.2.line==line)=true
  ·simp only[hc,if_true,VL];rcases names_filter (env:=env) (line:=line) r with z|z
   ·left;simpa using z
   ·right;rw[z]
  ·simp only[hc,V0,if_false];left;have:=le r;rw[VT];exact R6 this
set_option backward.match.sparseCases true in
def swapped_cases{env:Env}{xs:List (Str×Pos)}(hv:cf value=true):
  Y' [.Tuple (xs.map fun p=>WV p.1 p.2) k tp] value env=pure none\/Y' [.Tuple (xs.map fun p=>WV p.1 p.2) k tp] value env=pure (some (xs.map (·.1))):=by
 induction value using Expr.casesOn with
 |Tuple vs vk vp=>
  delta Y';dsimp only;refine(Yl _).elim (fun h=>.inl (if_pos h)) fun h=>?_;rw[if_neg h];refine(Yl _).elim (fun h=>.inl (if_pos h)) fun h=>?_;rw[if_neg h];refine(Yl _).elim (fun h=>.inl (if_pos h)) fun hn=>?_;rw[if_neg hn];refine(Yl _).elim (fun h=>.inl (if_pos h)) fun hf=>?_;rw[if_neg hf,if_neg fun hc=>by delta cf at hv;dsimp only at hv;rw[hc]at hv;exact hf hv];right;simp only[Ys,bne_iff_ne,ne_eq,not_or,Decidable.not_not,VI]at hn;rcases names_filter (env:=env) (line:=(((xs.map fun p=>WV p.1 p.2).head?.map (·.pos.line)).getD 0)) xs with z|z
  ·exact absurd hn.1 z
  ·exact congrArg (fun l=>(pure (some l):Sem (Option (List Str)))) z
 |_=>exact .inl rfl
theorem pA{α β:Type}:∀{l:List α}{m:List β},l.length=m.length->l.reverse.zip m.reverse=(l.zip m).reverse
 |[],[],_=>rfl
 |[],_::_,h=>by injection h
 |_::_,[],h=>by injection h
 |a::l,b::m,h=>by
  have h':=YT h;rw[Wv,Wv,List.zip_append (by rw[Xf,Xf,h']),pA h',WN (as:=l) (bs:=m),Wv];rfl
def kK(elts:List Expr)(n:Nat)(tp:Pos)(env:Env)(v:Vq):assign (.Tuple elts n tp) env v=(do Yh tp;unpack v (YY elts env)):=rfl
def m_{Q:aM->AH->Prop}(F:FS cc c loc1 H ad hd s)(r1:VR ad v x)(d:j5 Γ c.cl k c.hn (.tup is) v loc H Q E):
  ∃t items vs,x=.ref t/\IsTup s.heap t items/\aw (VR ad) vs items.toList/\vs.length=is.length/\is.Nodup/\Q (m8 loc (is.zip vs)) H:=by
 change FF v H _ at d;obtain⟨j,vs,rfl,hvs,d⟩:=d;refine jb x r1 fun t et=>?_;refine o2 (F.tup et hvs) fun us n e2 r=>?_;exact⟨t,us,vs,rfl,mL e2,r,d.1,d.2.1,d.2.2⟩
set_option tactic.hygienic true in
def qL(O:aO cc)(eo:ay c)(ao:bx c A k)(hsc:aN sc c.env.scope){es:List Expr}(hes:dg cc.T sc es=some is)(hcomp:bL value=false)(hv:cf value=true)
  {DV:aM->ja} (hval:∀loc,aC cc c A loc (eval value c.env) (DV loc)):
  bc cc c A (exec (.Assign [.Tuple es kk tp] value pos) c.env) (fun loc H Q E=>DV loc H (fun v H1=>j5 Γ c.cl k c.hn (.tup is) v loc H1 (fun loc1 H2=>Q .next loc1 H2) (E loc)) (E loc)):=by
 intro loc H ad hd s Q E Qr Er F d po q e;refine wV es (fH hsc hes) fun xs nm=>?_;have hs:Z1 [.Tuple (xs.map fun p=>WV p.1 p.2) kk tp] value pos.line c.env=pure false:=by
  induction value using Expr.casesOn<;>first|rfl|(cases hcomp;done)
 have zipFst:∀{vs:List AV},vs.length=is.length->(is.zip vs).map (·.1)=is:=fun hl=>List.map_fst_zip (Ig hl);rcases swapped_cases (env:=c.env) (k:=kk) (tp:=tp) (xs:=xs) hv with hw|hw
 ·refine Assign_Tuple (hval loc _ _ _ _ _ _ _ _ F d (fun v H1 ad1 hd1 s1 x T1 F1 r1 d1=>?_) (KS.ke e loc)) hs hw;refine RC x (m_ F1 r1 d1) fun t items vs it r hl hnd d2=>?_;refine qX (dq (env:=c.env) xs) fun a1 a2 a3=>?_;rw[kK];refine Vi (VY ?_);unfold unpack;have hsz:(YY (xs.map fun p=>WV p.1 p.2) c.env).length=items.size:=by
   rw[a2,←Wu,←r.length,hl,nm.length,VI]
  rw[a1,a3,hsz];refine Vi (V6 (kA (F1.chain ao) it fun h' hk=>?_));have F2:=F1.grow (k:=s1.toks) hk;have hst:∀(x:Str×Pos) u s' QU',Vy (Vt cc.prog cc.w) A (ZM c.env x.1 u) QU' Er s'->Vy (Vt cc.prog cc.w) A (assign (.Name x.1 x.2) c.env u) QU' Er s':=fun x u s' QU' h=>assign_Name h;have hmap:xs.map (fun p=>assign (.Name p.1 p.2) c.env)=xs.map (fun p=>assign (.Name p.1 p.2) c.env):=rfl;have gen:∀(ys:List (Str×Pos)) (js:List Nat),aw (la cc c) js (ys.map (·.1))->∀(ws:List AV) (us:List Vq) (loc0:aM) (s0:Vo) (QU:Unit->Vo->Prop),FS cc c loc0 H1 ad1 hd1 s0->aw (VR ad1) ws us->ws.length=js.length->
    (∀s',FS cc c (m8 loc0 (js.zip ws)) H1 ad1 hd1 s'->QU () s')->Vy (Vt cc.prog cc.w) A (WT (ys.map (fun p=>assign (.Name p.1 p.2) c.env)) us) QU Er s0:=by
   intro ys;induction ys with
   |nil=>
    intro js hn ws us loc0 s0 QU F0 r0 hl0 q0;cases hn;have:WT [] us=pure ():=by induction us using Vr<;>rfl
    show Vy _ A (WT [] us) QU Er s0;rw[this];exact Vp (q0 _ F0)
   |cons y ys ih=>
    intro js hn ws us loc0 s0 QU F0 r0 hl0 q0;cases hn with
    |cons n1 n2=>
     cases r0 with
     |nil=>injection hl0
     |cons r1 r2=>
      refine Vi (V6 (assign_Name (df O eo F0 n1.nm n1.lo r1 fun s' F'=>?_)));exact ih _ n2 _ _ _ _ _ F' r2 (YT hl0) q0
  exact gen xs is nm vs items.toList loc _ _ F2 r hl fun s' F'=>KF.next q T1 F' d2
 ·refine Assign_Tuple_swapped (hval loc _ _ _ _ _ _ _ _ F d (fun v H1 ad1 hd1 s1 x T1 F1 r1 d1=>?_) (KS.ke e loc)) hs hw;refine RC x (m_ F1 r1 d1) fun t items vs it r hl hnd d2=>?_;have hsz:(xs.map (·.1)).length=items.size:=by
   rw[←Wu,←r.length,hl,nm.length]
  rw[hsz];refine kA (F1.chain ao) it fun h' hk=>?_;have F2:=F1.grow (k:=s1.toks) hk;have rev:∀{α β:Type} {R:α->β->Prop} {l:List α} {m:List β},aw R l m->aw R l.reverse m.reverse:=by
   intro α β R l m h;induction h with
   |nil=>exact .nil
   |cons x t ih=>rw[Wv,Wv];exact ih.append (.cons x .nil)
  refine sr O eo (stor:=fun n=>bindName c.env n) (fun x u s' QU' h=>bindName_ h) (rev nm) vs.reverse _ loc _ F2 (rev r) (by rw[Xf,Xf,hl]) fun s' F'=>?_;refine KF.next q T1 (F'.relk fun j=>?_) d2
  have hz:is.reverse.zip vs.reverse=(is.zip vs).reverse:=pA (Mn hl);rw[hz];exact kZ loc (by rw[zipFst hl];exact hnd) j
abbrev KR(cc:CC)(ad:List Addr)(p:Nat×AV)(kv:Str×Vq):Prop:=cc.T.an[p.1]?=some kv.1/\VR ad p.2 kv.2
def xU(w:XC)(x:Str):YB w.params x=hashStr w x:=by rfl
def B5(h:aw (DE cc ad) es ents):∃kvs:List (Str×Vq),Pairs (strKind prog cc.w) ents kvs/\(∀e∈ents,∃k,(strKind prog cc.w).is k e.key=true/\e.hash=(strKind prog cc.w).hash k)/\aw (KR cc ad) es kvs:=by
 induction h with
 |nil=>exact(i8 ([]) .nil (fun _ h=>(nomatch h)) .nil)
 | @cons p e r l q rest ih=>
  obtain⟨z,t,h1,h2,h3,h4⟩:=q;refine eD ih fun kvs a b d=>?_;have his:(strKind prog cc.w).is z e.key=true:=by rw[h2];exact Z_ _ _ _ _
  refine i8 ((z,e.val)::kvs) (.cons his rfl a) (fun x hx=>?_) (.cons ⟨h1,h4⟩ d);rcases Vv.mp hx with rfl|hx
  ·exact i0 z his (by rw[h3];exact xU _ _)
  ·exact b x hx
def sD(O:aO cc){n y:Nat}(hx:cc.T.an[n]?=some x)(h1:cc.T.an[y]?=some x):y=n:=(ZP (Vn.mp h1).1 O.an).mp (h1.trans hx.symm)
def JS(O:aO cc){n:Nat}(h1:cc.T.an[n]?=some kv.1)(h:aw (KR cc ad) r l)(z:kv∈l):n∈r.map (·.1):=by
 induction h with
 |nil=>cases z
 |cons a t ih=>
  rcases Vv.mp z with rfl|z
  ·rw[VL,sD O h1 a.1];exact Vl ..
  ·exact Vj _ (ih z)
def Ct(O:aO cc)(h:aw (KR cc ad) es kvs):(es.map (·.1)).Nodup->(kvs.map (·.1)).Nodup:=by
 induction h with
 |nil=>intro _;exact .nil
 |cons a rest ih=>
  intro hn;rw[VL,VQ]at hn⊢;refine⟨fun hm=>?_,ih hn.2⟩;refine o1 (Wj.mp hm) fun kv' hk e=>?_;exact hn.1 (JS O (by rw[e];exact a.1) rest hk)
def JR(O:aO cc){n:Nat}(hx:cc.T.an[n]?=some x)(h:aw (KR cc ad) es kvs)(e:lk n es=some u):∃v,valueAt kvs x=some v/\VR ad u v:=by
 induction h with
 |nil=>injection e
 | @cons p kv _ _ a rest ih=>
  refine kY a fun h1 h4=>?_;rw[show lk n (p::_)=_ from kf]at e;have hv:∀l,valueAt (kv::l) x=if kv.1=x then some kv.2 else valueAt l x:=fun l=>by
   unfold valueAt;rw[List.find?_cons];by_cases q:kv.1=x<;>simp[q]
  rw[hv]
  split at e
  ·rename_i hy;(injection e with e;subst e);rw[hy,hx]at h1;(injection h1 with h1;subst h1);exact i0 kv.2 (if_pos rfl) h4
  ·rename_i hy;rw[if_neg fun q=>hy (sD O hx (by rw[←q];exact h1))];exact ih e
def EX(O:aO cc){n:Nat}(hx:cc.T.an[n]?=some x)(h:aw (KR cc ad) rs l):n∉rs.map (·.1)->aw (KR cc ad) rs (l.map fun kv=>if kv.1=x then(kv.1,v)else kv):=by
 induction h with
 |nil=>intro _;exact .nil
 |cons a t ih=>
  intro hno;rw[VL]at hno⊢;refine .cons ?_ (ih fun z=>hno (Vj _ z));rw[if_neg fun q=>hno (by rw[←sD O hx (by rw[←q];exact a.1)];exact Vl ..)];exact a
def JT(O:aO cc){n:Nat}(hx:cc.T.an[n]?=some x)(r:VR ad u v)(h:aw (KR cc ad) es kvs):(es.map (·.1)).Nodup->(lk n es).isSome=true->
  aw (KR cc ad) (sd n u es) (kvs.map fun kv=>if kv.1=x then(kv.1,v)else kv)/\(kvs.any fun kv=>decide (kv.1=x))=true:=by
 induction h with
 |nil=>intro _ e;injection e
 | @cons p kv _ _ a rest ih=>
  intro hn e;refine kY a fun h1 h4=>?_;rw[VL,VQ]at hn;rw[show lk n (p::_)=_ from kf]at e;rw[show sd n u (p::_)=_ from tX,VL,List.any_cons]
  split at e
  ·rename_i hy;rw[hy]at h1 hn;have hz:kv.1=x:=by rw[hx]at h1;(injection h1 with h1;subst h1);rfl
   rw[if_pos hy,if_pos hz,decide_eq_true hz,Bool.true_or];exact⟨.cons ⟨by rw[hy];exact h1,r⟩ (EX O hx rest hn.1),rfl⟩
  ·rename_i hy;have hne:¬kv.1=x:=fun q=>hy (sD O hx (by rw[←q];exact h1));refine kY (ih hn.2 e) fun a b=>?_;rw[if_neg hy,if_neg hne,b,Bool.or_true];exact⟨.cons ⟨h1,h4⟩ a,rfl⟩
def vy(h:aw (KR cc ad) es kvs):Pairs (strKind prog cc.w) ents kvs->(∀e∈ents,∃k,(strKind prog cc.w).is k e.key=true/\e.hash=(strKind prog cc.w).hash k)->aw (DE cc ad) es ents:=by
 induction h generalizing ents with
 |nil=>intro p _;cases p;exact .nil
 |cons a t ih=>
  intro p hk;refine kY a fun h1 h2=>?_;cases p with
  |cons a b d=>
   refine .cons ?_ (ih d fun e he=>hk e (Vj _ he));refine o1 (hk _ (Vl ..)) fun k k1 k2=>?_;obtain rfl:=(strKind prog cc.w).inj _ _ _ k1 a;refine o8 (Value.isStrOf_shape a) fun tk ht=>?_;exact i6 _ tk h1 ht (by rw[k2];exact(xU _ _).symm) (by rw[b];exact h2)
def FS.dictAt(F:FS cc c loc H ad hd s){i:Nat}(e:ad[i]?=some a)(h1:H[i]?=some (.dict es)):∃ents n,s.heap.get? a=some (YX ents n)/\aw (DE cc ad) es ents:=by
 refine oZ fun zq=>?_;obtain⟨a',o,e1,e2,ents,n,rfl,r⟩:=F.hr.obj _ _ h1;refine zq ?_;rw[e]at e1;(injection e1 with e1;subst e1);exact i2 ents n e2 r
def nB(O:aO cc)(e:s.heap.get? a=some (YX ents n))(r:aw (DE cc ad) es ents)(hn:(es.map (·.1)).Nodup):
  ∃kvs,s.heap.DictOf (strKind prog cc.w) a kvs/\aw (KR cc ad) es kvs:=by
 refine eD (B5 (prog:=prog) r) fun kvs p q d=>?_;refine i0 kvs (⟨_,ents.toArray,n,e,⟨rfl,rfl,rfl⟩,rfl,fun x hx=>q x (by simpa using hx),by simpa using p,Ct O d hn⟩) d
set_option tactic.hygienic true in
def JQ(O:aO cc){value slice:Expr}(hs:jN slice=false)(hx:cc.T.an[n]?=some x)(F:FS cc c loc H ad hd s)(r:VR ad v o)(d:Cs n v H Q)(K:KV cc c loc H ad hd Q Qr):
  Vy (Vt cc.prog cc.w) A (Yy value slice o (.str x t)) Qr Er s:=by
 obtain⟨i,es,u,rfl,h1,h2,d1,d2⟩:=d;refine jb o r fun a ea=>?_;refine o2 (F.dictAt ea h1) fun ents m e2 R=>?_;refine o1 (nB O (prog:=cc.prog) e2 R d1) fun kvs D kr=>?_;refine o1 (JR O hx kr h2) fun w w1 w2=>?_;exact tail_any D.typeIs slot_dict_getitem.lookup (wpAny_getItem_of (Z_ _ _ _ _) D.mapOf w1 (K _ _ _ _ _ _ (.refl _ _ _) F.toks w2 d2)) (iG hs _ _)
set_option tactic.hygienic true in
def zV(O:aO cc){n:Nat}(hx:cc.T.an[n]?=some x)(F:FS cc c loc H ad hd s)(r:VR ad v o)(ru:VR ad u w){QS:AH->Prop}(d:tZ n v u H QS)
  (K:∀H' s',Tr ad H hd ad H' hd->FS cc c loc H' ad hd s'->QS H'->QU () s'):Vy (Vt cc.prog cc.w) A (setItem o (.str x t) w) QU Er s:=by
 obtain⟨i,es,rfl,h1,d1,d2,d3,d4⟩:=d;refine jb o r fun a ea=>?_;refine o2 (F.dictAt ea h1) fun ents m e2 R=>?_;refine o1 (nB O (prog:=cc.prog) e2 R d2) fun kvs D kr=>?_;refine kY (JT O hx ru kr d2 d1) fun p1 p2=>?_;refine wpAny_setItem_pairs (Z_ _ _ _ _) D (fun h' D' sb=>?_) (by rw[←kr.length];exact f_ (by unfold fO;exact R7 d3));refine Ut D' fun o' es' ep ho hex hdat hk hp _=>?_;have hst:stored kvs x w=kvs.map fun kv=>if kv.1=x then(kv.1,w)else kv:=by unfold stored;rw[if_pos p2]
 rw[hst]at hp;have ho':o'=YX es'.toList ep:=by
  obtain⟨c1,c2,c3,c4⟩:=o';refine qX hex fun x1 x2 x3=>?_;simp only at x1 x2 x3 hdat;subst x1 x2 x3 hdat;show _=YX es'.toList ep;unfold YX;simp
 exact K _ _ (Tr.set h1 (fun z=>z)) (F.upd (ao:=.dict (sd n u es)) (o:=o') (k:=s.toks+1) ea h1 (fun z=>z) sb.extBut ho (i2 es'.toList ep ho' (vy p1 hp fun e he=>hk e (by simpa using he)))) d4
set_option tactic.hygienic true in
def zU(F:FS cc c loc H ad hd s)(ru:VR ad u o)(rw':VR ad w i)(rv:VR ad v y){QS:AH->Prop}
  (d:pv u w v H QS)
  (K:∀H' s',Tr ad H hd ad H' hd->FS cc c loc H' ad hd s'->QS H'->QU () s'):Vy (Vt cc.prog cc.w) A (setItem o i y) QU Er s:=by
 obtain⟨j,m,xs,rfl,rfl,hxs,h0,h1,h2,d⟩:=d;refine jb o ru fun a ea=>?_;refine cX i rw' fun t=>?_;refine o1 (F.list ea hxs) fun vs l r=>?_;have hsz:=r.size;refine wpAny_setItem_list l h0 (by unfold fO at h2;omega) (by omega) fun h' l' sb=>?_;refine o1 l' fun o' ho hc=>?_;exact K _ _ (Tr.set hxs (fun z=>z)) (F.upd (ao:=.list (xs.set m.toNat v)) (o:=o') (k:=s.toks) ea hxs (fun z=>z) sb.extBut ho (i0 _ hc (by rw[Array.toList_setIfInBounds];exact r.set rv _))) d
set_option tactic.hygienic true in
def sh(eo:ay c)(F:FS cc c loc H ad hd s)(hj:c.cn[j]?=some x)(hl:c.env.scope.names.lookup x=some .cell)(r:VR ad v u){QS:AH->Prop}
  (d:m6 c.cl j v H QS) (K:∀H' s',Tr ad H hd ad H' hd->FS cc c loc H' ad hd s'->QS H'->QU () s'):Vy (Vt cc.prog cc.w) A (ZM c.env x u) QU Er s:=by
 refine oZ fun zq=>?_;refine o6 (F.cells j x hj (.inl hl)) fun a i e1 e2 e3=>?_;obtain⟨i',v0,e6,hv0,d⟩:=d;rw[e2]at e6;(injection e6 with e6;subst e6);refine QJ (F.hr.obj _ _ hv0) fun a' o e4 e5 w0 ho _=>?_;refine zq ?_;rw[e3]at e4;(injection e4 with e4;subst e4);refine wpAny_storeName_cell eo.kind hl e1 (i0 o e5 ho) fun h' ic sb=>?_;refine o1 ic fun o' ho' hd'=>?_;exact K _ _ (Tr.set hv0 (fun z=>z)) (F.upd (ao:=.cell (some v)) (o:=o') (k:=s.toks) e3 hv0 (fun z=>z) sb.extBut ho' (i0 _ hd' r)) d
def cj(hc:bL value=false)(t:Option Expr)(l:Nat)(env:Env):swapsWith value t l env=pure false:=by
 induction value using Expr.casesOn<;>first|rfl|(cases hc;done)
variable{DV:aM->ja}
def qK(O:aO cc)(eo:ay c){x:Str}{p pos:Pos}{value:Expr}{i:Nat}(hx:cc.T.nm[i]?=some x)(hl:c.env.scope.names.lookup x=some .local)(hcomp:bL value=false)(hval:∀loc,aC cc c A loc (eval value c.env) (DV loc)):
  bc cc c A (exec (.Assign [.Name x p] value pos) c.env) (fun loc H Q E=>DV loc H (fun v H1=>Q .next (st i v loc) H1) (E loc)):=by
 intro loc H ad hd s Q E Qr Er F d po q e;refine wpAny_Assign_Name (hval loc _ _ _ _ _ _ _ _ F d (fun v H1 ad1 hd1 s1 x T1 F1 r1 d1=>?_) (KS.ke e loc)) (cj hcomp _ _ _);exact df O eo F1 hx hl r1 fun s' F'=>KF.next q T1 F' d1
def qH(eo:ay c){x:Str}{p pos:Pos}{value:Expr}{j:Nat}(hj:c.cn[j]?=some x)(hl:c.env.scope.names.lookup x=some .cell)(hcomp:bL value=false)(hval:∀loc,aC cc c A loc (eval value c.env) (DV loc)):
  bc cc c A (exec (.Assign [.Name x p] value pos) c.env) (fun loc H Q E=>DV loc H (fun v H1=>j5 Γ c.cl k c.hn (.cel j) v loc H1 (fun loc1 H2=>Q .next loc1 H2) (E loc)) (E loc)):=by
 intro loc H ad hd s Q E Qr Er F d po q e;refine wpAny_Assign_Name (hval loc _ _ _ _ _ _ _ _ F d (fun v H1 ad1 hd1 s1 x T1 F1 r1 d1=>?_) (KS.ke e loc)) (cj hcomp _ _ _);rw[J2]at d1;exact sh (QS:=fun H2=>Q .next loc H2) eo F1 hj hl r1 d1 fun H' s' T' F' d'=>KF.next q (T1.trans T') F' d'
def oW(O:aO cc)(hx:cc.T.an[n]?=some x)(hn:n<8)(hcomp:bL value=false)(hval:∀loc,aC cc c A loc (eval value c.env) (DV loc))(ho:∀loc,aC cc c A loc (eval o c.env) (ae Γ c.cl k c.hn loc oI)):
  bc cc c A (exec (.Assign [.Attribute o x p] value pos) c.env) (fun loc H Q E=>DV loc H (fun v H1=>j5 Γ c.cl k c.hn (.attr oI n) v loc H1 (fun loc1 H2=>Q .next loc1 H2) (E loc)) (E loc)):=by
 intro loc H ad hd s Q E Qr Er F d po q e;refine Xm (hval loc _ _ _ _ _ _ _ _ F d (fun v H1 ad1 hd1 s1 y T1 F1 r1 d1=>?_) (KS.ke e loc)) (cj hcomp _ _ _);rw[Fm]at d1;refine ho loc _ _ _ _ _ _ _ _ F1 d1 (fun u H2 ad2 hd2 s2 z T2 F2 r2 d2=>?_) (KS.ke (KS.tr e T1) loc);exact yE O hx hn F2 r2 (r1.mono T2.ad) d2 fun H' s' T' F' d'=>KF.next q ((T1.trans T2).trans T') F' d'
def qJ(O:aO cc)(hx:cc.T.an[n]?=some x)(hcomp:bL value=false)(hval:∀loc,aC cc c A loc (eval value c.env) (DV loc))(ho:∀loc,aC cc c A loc (eval o c.env) (ae Γ c.cl k c.hn loc oI)):
  bc cc c A (exec (.Assign [.Subscript o (.Constant (.str x) kk kp) p] value pos) c.env) (fun loc H Q E=>DV loc H (fun v H1=>j5 Γ c.cl k c.hn (.key oI n) v loc H1 (fun loc1 H2=>Q .next loc1 H2) (E loc)) (E loc)):=by
 intro loc H ad hd s Q E Qr Er F d po q e;refine wpAny_Assign_Subscript (hval loc _ _ _ _ _ _ _ _ F d (fun v H1 ad1 hd1 s1 y T1 F1 r1 d1=>?_) (KS.ke e loc)) (cj hcomp _ _ _);rw[J4]at d1;refine ho loc _ _ _ _ _ _ _ _ F1 d1 (fun u H2 ad2 hd2 s2 z T2 F2 r2 d2=>?_) (KS.ke (KS.tr e T1) loc);refine YW ?_;exact zV O hx F2.toks r2 (r1.mono T2.ad) d2 fun H' s' T' F' d'=>KF.next q ((T1.trans T2).trans T') F' d'
def qI{value:Expr}(hcomp:bL value=false)(hval:∀loc,aC cc c A loc (eval value c.env) (DV loc))(ho:∀loc,aC cc c A loc (eval o c.env) (ae Γ c.cl k c.hn loc oI))(hi:∀loc,aC cc c A loc (eval i c.env) (ae Γ c.cl k c.hn loc iI)):
  bc cc c A (exec (.Assign [.Subscript o i p] value pos) c.env) (fun loc H Q E=>DV loc H (fun v H1=>j5 Γ c.cl k c.hn (.idx oI iI) v loc H1 (fun loc1 H2=>Q .next loc1 H2) (E loc)) (E loc)):=by
 intro loc H ad hd s Q E Qr Er F d po q e;refine wpAny_Assign_Subscript (hval loc _ _ _ _ _ _ _ _ F d (fun v H1 ad1 hd1 s1 y T1 F1 r1 d1=>?_) (KS.ke e loc)) (cj hcomp _ _ _);rw[J3]at d1;refine ho loc _ _ _ _ _ _ _ _ F1 d1 (fun u H2 ad2 hd2 s2 z T2 F2 r2 d2=>?_) (KS.ke (KS.tr e T1) loc);refine hi loc _ _ _ _ _ _ _ _ F2 d2 (fun w H3 ad3 hd3 s3 z' T3 F3 r3 d3=>?_) (KS.ke (KS.tr (KS.tr e T1) T2) loc);exact zU (QS:=fun H'=>Q .next loc H') F3 (r2.mono T3.ad) r3 (r1.mono (T2.ad.trans T3.ad)) d3 fun H' s' T' F' d'=>KF.next q (((T1.trans T2).trans T3).trans T') F' d'
def xX{op:xn}{i j:Int}{t u:Tok}{H:AH}(F:FS cc c loc H ad hd s)(d:mj op i j H Q)(K:KV cc c loc H ad hd Q Qr):
  Vy (Vt cc.prog cc.w) A (inplaceOp (uD op) (.int i t) (.int j u)) Qr Er s:=by
 induction op using xn.casesOn with
 |add=>exact PyProof.Rows.iadd_int (K.int F d _ _)
 |sub=>exact PyProof.Rows.isub_int (K.int F d _ _)
 |mul=>exact PyProof.Rows.imul_int (K.int F d.2 _ _) (IntMulOk.of_left (intBits_le_64 (by have:=d.1.1;omega) (by have:=d.1.1;omega)))
 |fdiv=>
  replace d:_/\_:=d;refine PyProof.Rows.ifloordiv_int (by omega) ?_ (.inl (PyProof.noPylong_small (by omega)));rw[Int.fdiv_eq_ediv_of_nonneg _ (by omega)];exact K.int F d.2 _ _
 |mod=>
  replace d:_/\_:=d;refine PyProof.Rows.imod_int (by omega) ?_;rw[Int.fmod_eq_emod_of_nonneg _ (by omega)];exact K.int F d.2 _ _
set_option tactic.hygienic true in
def zG(O:aO cc)(eo:ay c)(hx:cc.T.nm[i]?=some x)(hl:c.env.scope.names.lookup x=some .local)(hval:∀loc,aC cc c A loc (eval value c.env) (DV loc)):
  bc cc c A (exec (.AugAssign (.Name x p) (uD op) value pos) c.env) (fun loc H Q E=>match lk i loc with
  |some a=>DV loc H (fun b H1=>ju a b fun p q=>mj op p q H1 (fun v H2=>Q .next (st i v loc) H2)) (E loc)
  |none=>False):=by
 intro loc H ad hd s Q E Qr Er F d po q e;induction ha:lk i loc using Option.casesOn with
 |none=>rw[ha]at d;exact d.elim
 |some a=>
  rw[ha]at d;refine oZ fun zq=>?_;refine o1 F.ns fun m n L=>?_;refine o6 (L i a ha) fun x' u e1 e2 r=>?_;refine zq ?_;rw[hx]at e1;(injection e1 with e1;subst e1);refine wpAny_AugAssign_Name (YG eo.kind hl n e2 ?_);refine hval loc _ _ _ _ _ _ _ _ F d (fun b H1 ad1 hd1 s1 y T1 F1 r1 d1=>?_) (KS.ke e loc);obtain⟨p,q',rfl,rfl,d1⟩:=d1
  ·refine cX u r fun t=>?_;refine cX y r1 fun t'=>?_;exact xX F1 d1 fun v H2 ad2 hd2 s2 z T2 F2 r2 d2=>df O eo F2 hx hl r2 fun s' F'=>KF.next q (T1.trans T2) F' d2
def zF(O:aO cc)(hx:cc.T.an[n]?=some x)(hn:n<8)(hval:∀loc,aC cc c A loc (eval value c.env) (DV loc)){DO:aM->ja}(ho:∀loc,aC cc c A loc (eval o c.env) (DO loc)):
  bc cc c A (exec (.AugAssign (.Attribute o x p) (uD op) value pos) c.env) (fun loc H Q E=>DO loc H (fun u H1=>fU n u H1 (fun a H2=>DV loc H2 (fun b H3=>ju a b fun p q=>mj op p q H3 (fun v H4=>lT n u v H4 (fun H5=>Q .next loc H5))) (E loc))) (E loc)):=by
 intro loc H ad hd s Q E Qr Er F d po q e;refine wpAny_AugAssign_AttributeAny (ho loc _ _ _ _ _ _ _ _ F d (fun u H1 ad1 hd1 s1 y T1 F1 r1 d1=>?_) (KS.ke e loc));refine xS O hx hn F1 r1 d1 fun a H2 ad2 hd2 s2 z T2 F2 r2 d2=>?_;refine hval loc _ _ _ _ _ _ _ _ F2 d2 (fun b H3 ad3 hd3 s3 y3 T3 F3 r3 d3=>?_) (KS.ke (KS.tr (KS.tr e T1) T2) loc);obtain⟨p,q',rfl,rfl,d3⟩:=d3
 ·refine cX z r2 fun t=>?_;refine cX y3 r3 fun t'=>?_;refine xX F3 d3 fun v H4 ad4 hd4 s4 z4 T4 F4 r4 d4=>?_;exact yE O hx hn F4 (r1.mono (T2.ad.trans (T3.ad.trans T4.ad))) r4 d4 fun H' s' T' F' d'=>KF.next q ((((T1.trans T2).trans T3).trans T4).trans T') F' d'
def zI(eo:ay c)(hcomp:bL value=false)(hval:∀loc,aC cc c A loc (eval value c.env) (DV loc)):
  bc cc c A (exec (.Expr value pos) c.env) (fun loc H Q E=>DV loc H (fun _ H1=>Q .next loc H1) (E loc)):=by
 intro loc H ad hd s Q E Qr Er F d po q e;rw[exec_Expr c.env value pos (by unfold interactive;rw[eo.kind];rfl) (cj hcomp _ _ _)];refine Vi (VY (Vi (hval loc _ _ _ _ _ _ _ _ F d (fun v H1 ad1 hd1 s1 y T1 F1 r1 d1=>?_) (KS.ke e loc))));exact wpAny_dropValue (KF.next q T1 F1 d1)
end
section
variable{cc:CC}{c:FC}{A:VN}{Γ:cM}{k:Nat}{loc loc1:aM}{sc:VZ}{H:AH}{ad:List Addr}{hd:Hid}{s:Vo}{h h':Heap}{fr:List (Addr×Obj)}
variable{H1:AH}{ad1:List Addr}{hd1:Hid}{Er:d_}{QU:Unit->Vo->Prop}
structure aR(c:FC)(A:VN):Prop where
 top:∃outer,A.frames=some (c.env::outer)
 frame:c.env.frame=some c.env.locals
def FS.frames(F:FS cc c loc H ad hd s)(ao:bx c A k)(tp:aR c A):∃outer,A.frames=some (c.env::outer)/\s.heap.FunFrames cc.G (c.env::outer)/\∀b∈(c.env::outer).filterMap (·.frame),b=c.env.locals\/b∈c.fr.map (·.1):=by
 refine o8 tp.top fun outer e=>?_;refine o1 ao.frames fun envs e1 e2=>?_;rw[e]at e1;(injection e1 with e1;subst e1);refine i8 outer e ?_ (fun b hb=>?_)
 ·have own:∃o,s.heap.get? c.env.locals=some o/\∀vs,o.data≠.fields vs:=by
   refine RA F.ns fun m o es ep h1 h2 _ _=>?_;exact i0 o h1 (fun vs q=>by rw[h2]at q;cases q)
  have all:∀l:List Env,(∀e∈l,e.scope.kind≠.module/\∃a,e.frame=some a/\(a=c.env.locals\/∃o,(a,o)∈c.fr/\kb o))->s.heap.FunFrames cc.G l:=by
   intro l;induction l with
   |nil=>intro _;trivial
   |cons x r ih=>
    intro hl;refine JV (hl x (Vl ..)) fun k1 a k2 k3=>?_;refine⟨k1,?_,ih fun e he=>hl e (Vj _ he)⟩;rcases k3 with rfl|⟨o,m,es,ep,hd'⟩
    ·refine o1 own fun o h1 h2=>?_;exact i6 _ o k2 F.ownG h1 h2
    ·refine o8 (F.hr.frm _ m) fun sl z=>?_;exact i6 a _ k2 (F.hr.new _ (Vh _ (Vk _ (Vz (f:=Wr) m)))) z (fun vs q=>by
      simp only at q;rw[hd']at q;cases q)
  exact all _ e2
 ·refine o1 (List.mem_filterMap.mp hb) fun x hx hxb=>?_;refine JV (e2 x hx) fun _ a k2 k3=>?_;rw[k2]at hxb;(injection hxb with hxb;subst hxb);rcases k3 with rfl|⟨o,m,_⟩
  ·exact .inl rfl
  ·exact .inr (Vz (f:=Wr) m)
def FS.marked{S:List Addr}(F:FS cc c loc H ad hd s)(hS:∀b∈S,b=c.env.locals\/b∈c.fr.map (·.1))(fx:cD cc c.fr (some c.env.locals) hd ad x)(fy:cD cc c.fr (some c.env.locals) hd ad y)
  (k1:∀b o,b∉S->b≠x->b≠y->s.heap.get? b=some o->h'.get? b=some o) (k2:∀b o,b≠x->b≠y->s.heap.get? b=some o->∃sl,h'.get? b=some {o with slots:=sl}):
  FS cc c loc H ad hd {s with heap:=h',toks:=tk}:=by
 have hnd:=F.hr.nodup;have offFr:∀b∈ad++(hd.objs cc).map (·.1),b∉S:=fun b hb hbS=>by
  rcases hS b hbS with rfl|hbf
  ·refine F.own ?_;rcases Vs.mp hb with z|z
   ·exact Vk _ z
   ·exact Vh _ (Vh _ z)
  ·rcases Vs.mp hb with z|z
   ·exact(VX.mp hnd).2.2 b z b (Vk _ hbf) rfl
   ·exact(VX.mp (VX.mp hnd).2.1).2.2 b hbf b z rfl
 have ne:∀{z:Addr},cD cc c.fr (some c.env.locals) hd ad z->∀b∈tot cc c.fr hd ad,b≠z:=fun f b hb q=>f.t (q▸hb);refine RA F.ns fun m o es ep n1 n2 n3 L=>?_;refine o8 (k2 _ _ (fun q=>fx.o (by rw[q])) (fun q=>fy.o (by rw[q])) n1) fun sl n4=>?_;refine⟨(i0 m ⟨_,es,ep,n4,n2,n3⟩ L),⟨fun b o e=>?_,F.hr.len,F.hr.nodup,F.hr.new,fun i ao e=>?_,fun p hp=>?_,fun p hp=>?_,F.hr.hok⟩,F.own,F.above,F.cells,F.hdl,⟨F.oth.gens,F.oth.drawn,F.oth.os⟩⟩
 ·have gne:∀{z:Addr},cc.G.get? z=none->b≠z:=fun hz q=>by rw[←q,e]at hz;injection hz
  refine k1 b o (fun hb=>?_) (gne fx.g) (gne fy.g) (F.hr.keep _ _ e);rcases hS b hb with rfl|hbf
  ·exact gne F.ownG rfl
  ·exact gne (F.hr.new _ (Vh _ (Vk _ hbf))) rfl
 ·refine o6 (F.hr.obj i ao e) fun a o e1 e2 r=>?_;have ha:=VP e1;exact i1 a o e1 (k1 _ _ (offFr _ (Vk _ ha)) (ne fx _ (Vk _ ha)) (ne fy _ (Vk _ ha)) e2) r
 ·refine o8 (F.hr.frm p hp) fun sl z=>?_;have hm:p.1∈tot cc c.fr hd ad:=Vh _ (Vk _ (Vz (f:=Wr) hp));refine o8 (k2 _ _ (ne fx _ hm) (ne fy _ hm) z) fun sl' z'=>?_;exact i4 sl' z'
 ·have hm:p.1∈(hd.objs cc).map (·.1):=Vz (f:=Wr) hp;have hm2:p.1∈tot cc c.fr hd ad:=Vh _ (Vh _ hm);exact k1 _ _ (offFr _ (Vh _ hm)) (ne fx _ hm2) (ne fy _ hm2) (F.hr.hid p hp)
def qY(cc:CC)(hn:Bool)(fr:List (Addr×Obj))(own:Option Addr)(hd:Hid)(ad:List Addr)(ea:Addr)(h:Heap):Prop:=
 ∃oe vs,h.get? ea=some oe/\oe.cls=.ref cc.lua/\oe.data=.fields vs/\6<=vs.size/\(hn=true->vs[2]?=some .none)/\cD cc fr own hd ad ea/\
  ∃T oT ts,vs[1]?=some (.ref T)/\T≠ea/\h.get? T=some oT/\oT.data=.fields ts/\3<ts.size/\cD cc fr own hd ad T
def qY.fly(x:qY cc hn fr own hd ad ea h):yM cc hn fr own hd ad ea h:=by
 refine UN x fun oe vs a b d e f g T oT ts t=>?_;exact⟨oe,vs,a,b,d,e,f,g,.inr ⟨T,oT,ts,t⟩⟩
def uT{ea:Addr}(F:FS cc c loc H ad hd s)(hfr:A.frames=some (c.env::outer))(hl:s.heap.FunFrames cc.G (c.env::outer))
  (hS:∀b∈(c.env::outer).filterMap (·.frame),b=c.env.locals\/b∈c.fr.map (·.1))(hf:c.env.frame=some c.env.locals)
  (he:s.heap.get? ea=some oe)(hc:oe.cls=.ref cc.lua)(hd':oe.data=.fields vs)(hz:6<=vs.size)(h2:ctx=true->vs[2]?=some .none)(fe:cD cc c.fr (some c.env.locals) hd ad ea)
  (q:∀h',FS cc c loc H ad hd {s with heap:=h'}->qY cc ctx c.fr (some c.env.locals) hd ad ea h'->QU () {s with heap:=h'}):
  Vy (Vt cc.prog cc.w) A (do let a←frameOf c.env;let pl←entryPlaceOf c.env.locals hadNext;let b←EntryCells.newEntry head a .none (rawInt c.env.locals) .none pl;setField (.ref ea) 1 b) QU Er s:=by
 have neS:ea∉(c.env::outer).filterMap (·.frame):=fun hm=>by
  rcases hS _ hm with q|q
  ·exact fe.o (by rw[q])
  ·exact fe.t (Vh _ (Vk _ q))
 refine Vi (wpAny_frameOf_fun hfr hl hf fun h₁ x1=>?_);refine Vi (wpAny_entryPlaceOf fun pl hpl=>?_);unfold EntryCells.newEntry newFields;refine Vi (Wl ?_ (hpl.sizeOk5 _ _ _ _ _));have he1:h₁.get? ea=some oe:=(x1.2.1 ea neS).trans he;generalize hob:({cls:=.type "traceback",dict:=none,data:=.fields ([head,.ref c.env.locals,.none,rawInt c.env.locals,.none]++(if pl.isEmpty then VJ 6 We else pl)).toArray}:Obj)=ob;have obd:∃ts,ob.data=.fields ts/\3<ts.size:=by subst hob;exact⟨_,rfl,by simp only[Wm,VH,VT];exact R8⟩
 have obf:ob.isFreed=false:=by subst hob;rfl
 refine o1 obd fun ts obd obz=>?_;have he2:=Vx (h:=h₁) ob he1;have hTe:h₁.objs.size≠ea:=Nat.ne_of_gt (Wb he1);refine Xq he2 hd' (MD hz) ?_;have hd3:=YK hd' (·.setIfInBounds 1 (Wo h₁.objs.size));have he3:=WL (Wc (·.setIfInBounds 1 (Wo h₁.objs.size))) he2 (Zi hd3);have hT3:=(WG (h₁.push ob) (Wc (·.setIfInBounds 1 (Wo h₁.objs.size))) (XD hTe)).trans (V_ h₁ obf);have h1':1<vs.size:=by exact MD hz
 generalize hh2:((h₁.push ob).update ea (Wc (·.setIfInBounds 1 (Wo h₁.objs.size))))=h2h at he3 hT3⊢;have keep:∀b o,b≠ea->h₁.get? b=some o->h2h.get? b=some o:=fun b o hbe hb=>by
  rw[←hh2,WG _ _ (XD hbe)];exact Vx _ hb
 have freshT:cD cc c.fr (some c.env.locals) hd ad h₁.objs.size:=by
  have none1:∀b o,s.heap.get? b=some o->b≠h₁.objs.size:=fun b o e z=>by
   have:=Wb e;rw[←x1.1,z]at this;exact WQ _ this
  refine⟨?_,fun m=>?_,fun z=>?_⟩
  ·induction w:cc.G.get? h₁.objs.size using Option.casesOn with
   |none=>rfl
   |some o=>exact absurd rfl (none1 _ _ (F.hr.keep _ _ w))
  ·refine o8 (F.hr.live m) fun o e=>?_;exact none1 _ _ e rfl
  ·refine QM F.ns fun m o _ _ e _ _=>?_;exact none1 _ _ e (XE z)
 refine q _ (F.marked (S:=(c.env::outer).filterMap (·.frame)) (x:=ea) (y:=ea) (tk:=s.toks) hS fe fe (fun b o hbS hbx _ e=>keep b o hbx ((x1.2.1 b hbS).trans e)) fun b o hbx _ e=>?_)
  ⟨_,_,he3,(Obj.cls_mapFields ..).trans hc,hd3,by simp[hz],fun hctx=>by rw[ZT (by decide)];exact h2 hctx,fe,h₁.objs.size,_,_,by simp[h1'],hTe,hT3,obd,obz,freshT⟩
 refine o8 (x1.2.2 b o e) fun sl z=>?_;exact⟨sl,keep b _ hbx z⟩
def yk{ea:Addr}(F:FS cc c loc H ad hd s)(ao:bx c A k)(tp:aR c A)(fl:yM cc ctx c.fr (some c.env.locals) hd ad ea s.heap)
  (q:∀h',FS cc c loc H ad hd {s with heap:=h'}->qY cc ctx c.fr (some c.env.locals) hd ad ea h'->QU () {s with heap:=h'}):
  Vy (Vt cc.prog cc.w) A (Xr (.ref ea) c.env) QU Er s:=by
 refine eD (F.frames ao tp) fun outer hfr hl hS=>?_;refine Tx fl fun oe vs he hc hd' hz h2 fe tr=>?_;unfold Xr;simp only[tp.frame];rcases tr with h1|⟨T,oT,ts,h1,hTe,hT,hdT,h3,fT⟩
 ·refine Vi (WA he hd' h1 ?_);rw[if_neg (by decide)];exact uT F hfr hl hS tp.frame he hc hd' hz h2 fe q
 ·refine Vi (WA he hd' h1 ?_);rw[if_pos (show(Wo T !=We)=true from by simp)];refine Vi (WA hT hdT (Array.getElem?_eq_getElem h3) ?_);by_cases hu:(ts[3]==rawInt c.env.locals)=true
  ·rw[if_pos hu];exact Vp (q s.heap F ⟨oe,vs,he,hc,hd',hz,h2,fe,T,oT,ts,h1,hTe,hT,hdT,h3,fT⟩)
  rw[if_neg hu];refine Vi (Xq hT hdT h3 ?_);have other:∀b,b≠T->(s.heap.update T (Wc (·.setIfInBounds 3 We))).get? b=s.heap.get? b:=fun b hb=>WG _ _ (XD hb);have F2:=F.marked (h':=s.heap.update T (Wc (·.setIfInBounds 3 We))) (S:=[]) (x:=T) (y:=T) (tk:=s.toks) (fun _ hb=>nomatch hb) fT fT
   (fun b o _ hb _ e=>(other b hb).trans e) (fun b o hb _ e=>⟨o.slots,(other b hb).trans e⟩)
  have hl2:(s.heap.update T (Wc (·.setIfInBounds 3 We))).FunFrames cc.G (c.env::outer):=by
   refine eD (F2.frames ao tp) fun outer2 hfr2 hl2 _=>?_;rw[hfr]at hfr2;cases hfr2;exact hl2
  exact uT (s:={s with heap:=s.heap.update T (Wc (·.setIfInBounds 3 We))}) F2 hfr hl2 hS tp.frame ((other ea (XD hTe)).trans he) hc hd' hz h2 fe q
def rL{ea:Addr}(F:FS cc c loc H ad hd s)(fl:qY cc ctx c.fr (some c.env.locals) hd ad ea s.heap)
  (q:∀h',FS cc c loc H ad hd {s with heap:=h'}->qY cc ctx c.fr (some c.env.locals) hd ad ea h'->QU () {s with heap:=h'}):
  Vy (Vt cc.prog cc.w) A (XR (.ref ea) f) QU Er s:=by
 refine Ke fl fun oe vs he hc hd' hz h2 fe T oT ts h1 hTe hT hdT h3 fT=>?_;unfold XR;refine Vi (WA he hd' h1 ?_);rw[if_pos (show(Wo T !=We)=true from by simp)];refine Xq hT hdT h3 ?_;have hdT2:=YK hdT (·.setIfInBounds 3 (f.elim We fun f=>rawInt f));have hT2:=WL (Wc (·.setIfInBounds 3 (f.elim We fun f=>rawInt f))) hT (Zi hdT2);have other:∀b,b≠T->(s.heap.update T (Wc (·.setIfInBounds 3 (f.elim We fun f=>rawInt f)))).get? b=s.heap.get? b:=fun b hb=>WG _ _ (XD hb);exact q _ (F.marked (S:=[]) (x:=T) (y:=T) (tk:=s.toks) (fun _ hb=>nomatch hb) fT fT (fun b o _ hb _ e=>(other b hb).trans e) (fun b o hb _ e=>⟨o.slots,(other b hb).trans e⟩))
  ⟨oe,vs,(other ea (XD hTe)).trans he,hc,hd',hz,h2,fe,T,_,_,h1,hTe,hT2,hdT2,by simp[h3],fT⟩
def kg(F:FS cc c loc H ad hd s)(ao:bx c A k)(tp:aR c A)(fl:yM cc ctx c.fr (some c.env.locals) hd ad ea s.heap)
  (q:∀h',FS cc c loc H ad hd {s with heap:=h'}->qY cc ctx c.fr (some c.env.locals) hd ad ea h'->QU () {s with heap:=h'}):
  Vy (Vt cc.prog cc.w) A (Xr (.ref ea) c.env) (fun _ s'=>Vy (Vt cc.prog cc.w) A (XR (.ref ea) none) QU Er s') Er s:=
 yk F ao tp fl fun _ F1 fl1=>rL F1 fl1 fun h' F2 fl2=>q h' F2 fl2
end
section
variable{cc:CC}{c:FC}{A:VN}{Γ:cM}{k:Nat}{loc loc1:aM}{sc:VZ}{H:AH}{ad:List Addr}{hd:Hid}{s:Vo}{h h':Heap}{fr:List (Addr×Obj)}{hn:Bool}{hd0:Option Addr}
variable{H1:AH}{ad1:List Addr}{hd1:Hid}{Er:d_}{QU:Unit->Vo->Prop}{Q:QE}{E:AH->Prop}{R:Xu->Vo->Prop}
def lR(Q:QE):QS:=fun fl _ H=>match fl with|.ret v=>Q v H|.next=>Q .none H|_=>False
structure Ends(cc:CC)(hn:Bool)(fr:List (Addr×Obj))(H:AH)(ad:List Addr)(hd:Hid)(Q:QE)(E:AH->Prop)(R:Xu->Vo->Prop):Prop where
 ret:T8 cc fr H ad hd Q R
 err:T9 cc hn fr H ad hd E R
def cD.away(x:cD cc fr own hd ad a):cD cc fr none hd ad a:=⟨x.g,x.t,fun z=>by cases z⟩
def qY.out(x:qY cc hn fr own hd ad ea h):yM cc hn fr none hd ad ea h:=by
 refine Ke x fun oe vs a b d e f g T oT ts t1 t2 t3 t4 t5 t6=>?_;exact⟨oe,vs,a,b,d,e,f,g.away,.inr ⟨T,oT,ts,t1,t2,t3,t4,t5,t6.away⟩⟩
set_option backward.match.sparseCases true in
/-- the body of a def,run to its end -/
def xK(F:FS cc c loc H ad hd s)(ao:bx c A k)(tp:aR c A)(hs:bc cc c A (Wt body c.env) D)(d:D loc H (lR Q) (fun _=>E))(en:Ends cc c.hn c.fr H ad hd Q E R):
  Vy (Vt cc.prog cc.w) A (Wt body c.env) (fun f s'=>R (.ok (.ret (match f with|.ret v=>v|_=>.none))) s')
   (fun e s'=>Vy (Vt cc.prog cc.w) A (Yz c.env e) (fun _ s''=>R (.error e) s'') (fun e' s''=>R (.error e') s'') s') s:=by
 refine hs _ _ _ _ _ _ _ _ (fun e s'=>Vy (Vt cc.prog cc.w) A (Yz c.env e) (fun _ s''=>R (.error e) s'') (fun e' s''=>R (.error e') s'') s') F d Zt (fun fl loc' H' ad' hd' s' f T' F' r' d'=>?_) (fun loc' H' ad' hd' s' ea T' F' fl d'=>?_)
 ·induction fl using yK.casesOn with
  |next=>subst r';exact en.ret .none _ _ _ _ _ T' F'.hr F'.oth rfl d'
  |ret v=>refine wV f r' fun x r=>?_;exact en.ret _ _ _ _ _ _ T' F'.hr F'.oth r d'
  |brk=>exact d'.elim
  |cont=>exact d'.elim
 ·unfold Yz;exact Vi (kg F' ao tp fl fun h' F2 fl2=>en.err _ _ _ _ _ T' F2.hr F2.oth fl2.out d')
def oj(O:aO cc){D:Nat->sx}
  (C:g_ cc k hn hd0 A fr H ad hd s)(hk:1<=k)(ho:s.heap.get? a=some o)(hdat:o.data=.func fd)(hcode:s.heap.CodeRec fd.code fd.qualname)(hbody:fd.body=.stmts body)
  (hg:fd.globals=mainGlobals)(hb:fd.builtins=W4)(hbind:Xp s fd ⟨vals,[]⟩ binds) (hcell:∀x∈fd.scope.names,x.2≠.cell) (hloc:∀x∈binds,fd.scope.names.lookup x.1=some .local)
  (hL:dk cc.T.nm ad loc0 (fun x=>binds.reverse.lookup x))
  (hcl:∀(j:Nat)(x:Str),cn[j]?=some x->fd.scope.names.lookup x=some .free->∃a i,fd.closure.lookup x=some a/\cl[j]?=some i/\ad[i]?=some a)
  (hcells:∀x,fd.scope.names.lookup x≠some .cell)
  (hs:∀L,bx ⟨Wi fd L a,cn,cl,fr,hn,hd0⟩ (A.deeper (Wi fd L a)) (k-1)->aR ⟨Wi fd L a,cn,cl,fr,hn,hd0⟩ (A.deeper (Wi fd L a))->bc cc ⟨Wi fd L a,cn,cl,fr,hn,hd0⟩ (A.deeper (Wi fd L a)) (Wt body (Wi fd L a)) (D (k-1)))
  (d:D (k-1) loc0 H (lR Q) (fun _=>E))(en:Ends cc hn fr H ad hd Q E R)
  (hco:fd.scope.isCoroutine=false:=by rfl) (hgen:fd.scope.isGenerator=false:=by rfl) (hkind:fd.scope.kind=.function:=by rfl):
  Yj (Vt cc.prog cc.w) A (.call (.ref a) ⟨vals,[]⟩) R s:=by
 refine codeAny_call_def (fd:=fd) (body:=body) (binds:=binds) (Xw (Xl _ _) C.room) ho hdat (O.rd.nolimit.keeps C.hr.keep) hcode hbody hbind hcell hloc (fun h₁ hns hk₁=>?_) hco hgen hkind;have hfresh:∀b ob,s.heap.get? b=some ob->b≠s.heap.objs.size:=fun b ob e=>WO (Wb e);have R1:=C.hr.grow hk₁;have hown:s.heap.objs.size∉tot cc fr hd ad:=fun m=>by
  refine o8 (C.hr.live m) fun ob e=>?_;exact hfresh _ _ e rfl
 have F:FS cc ⟨Wi fd s.heap.objs.size a,cn,cl,fr,hn,hd0⟩ loc0 H ad hd {s with heap:=h₁,toks:=s.toks+binds.length}:=
  ⟨(i0 _ hns hL),R1,hown,C.sz,fun j x hj hx=>by
   rcases hx with hx|hx
   ·exact absurd hx (hcells x)
   ·exact hcl j x hj hx,C.hdl,⟨C.oth.gens,C.oth.drawn,C.oth.os⟩⟩
 refine o1 C.frames fun envs e1 e2=>?_;have ao:bx ⟨Wi fd s.heap.objs.size a,cn,cl,fr,hn,hd0⟩ (A.deeper (Wi fd s.heap.objs.size a)) (k-1):=by
  refine⟨?_,?_,(i0 (Wi fd s.heap.objs.size a::envs) (by show A.frames.map _=_;rw[e1];rfl) (fun e he=>?_)),C.hnd,C.hn⟩
  ·have:=C.room;show A.depth+1+(k-1)<WC;exact Au this hk
  ·have:=C.units;show A.units+3+10*(k-1)<cLine;exact Av this hk
  ·rcases Vv.mp he with rfl|he
   ·exact uX (by show fd.scope.kind≠.module;rw[hkind];decide) _ rfl (.inl rfl)
   ·refine HT (e2 e he) fun k1 b ob k2 k3 k4=>?_;exact uX k1 b k2 (.inr ⟨ob,k3,k4⟩)
 have tp:aR ⟨Wi fd s.heap.objs.size a,cn,cl,fr,hn,hd0⟩ (A.deeper (Wi fd s.heap.objs.size a)):=⟨(i4 envs (by show A.frames.map _=_;rw[e1];rfl)),rfl⟩
 exact xK F ao tp (hs _ ao tp) d en
noncomputable def ak(names:List (Str×Wf)):List Str:=(names.filter (·.2==.cell)).map (·.1)
def pos?_cons(x y:Str)(r:List Str):pos? x (y::r)=if y==x then some 0 else(pos? x r).map (·+1):=rfl
theorem cY:∀(names:List (Str×Wf))(b:Nat)(acc:List (Str×Addr)),(ak names).Nodup->
  (ZN b names acc).lookup x=match pos? x (ak names)with|some j=>some (b+j)|none=>acc.lookup x
 |[],_,_,_=>rfl
 |(n,k)::r,b,acc,hnd=>by
  unfold ZN;induction hk:k==YI using Vu with
  |false=>
   have e:ak ((n,k)::r)=ak r:=by unfold ak;rw[Y2];simp[hk]
   rw[e]at hnd⊢;exact cY r b acc hnd
  |true=>
   have e:ak ((n,k)::r)=n::ak r:=by unfold ak;rw[Y2];simp[hk]
   rw[e]at hnd⊢;rw[VQ]at hnd;simp only[if_true];rw[cY r (b+1) ((n,b)::acc) hnd.2];rw[pos?_cons];by_cases hx:(n==x)=true
   ·have hx':n=x:=beq_iff_eq.mp hx;subst hx';have hno:pos? n (ak r)=none:=by
     induction q:pos? n (ak r)using Option.casesOn with
     |none=>rfl
     |some j=>exact absurd (VP (pos?_get q)) hnd.1
    rw[hno];simp[Yn]
   ·have hx':(n==x)=false:=by simpa using hx
    have hx2:(x==n)=false:=by rw[beq_eq_false_iff_ne]at hx'⊢;exact XD hx'
    simp only[hx',V0,if_false];induction pos? x (ak r)using Option.casesOn with
    |none=>simp[Yn,hx2]
    |some j=>show some (b+1+j)=some (b+(j+1));congr 1;exact DW
set_option genInjectivity true in
inductive PK where
 |l (i:Nat)|c (j:Nat)
noncomputable def cU(b:Nat):List PK->List AV->aM->AH->(aM->AH->Prop)->Prop
 |.l i::r,v::vs,loc,H,Q=>cU b r vs (st i v loc) H Q
 |.c j::r,v::vs,loc,H,Q=>cU b r vs loc (H.set (b+j) (.cell (some v))) Q
 |[],[],loc,H,Q=>Q loc H
 |_,_,_,_,_=>False
def pd{Q:aM->AH->Prop}:cU b (.l i::r) (v::vs) loc H Q=cU b r vs (st i v loc) H Q:=rfl
def pb{Q:aM->AH->Prop}:cU b (.c j::r) (v::vs) loc H Q=cU b r vs loc (H.set (b+j) (.cell (some v))) Q:=rfl
def pe{Q:aM->AH->Prop}:cU b [] [] loc H Q=Q loc H:=rfl
theorem HR.cells:∀(names:List (Str×Wf))(H:AH)(ad:List Addr)(h:Heap),HR cc fr hd ad H h->
  HR cc fr hd (ad++(VE (ak names).length).map (h.objs.size+·)) (H++VJ (ak names).length (.cell none)) (YS h names)
 |[],H,ad,h,R=>by
  have:(VE (ak []).length).map (h.objs.size+·)=[]:=rfl;rw[this,VW,show H++VJ (ak []).length (AO.cell none)=H from VW _];exact R
 |(n,k)::r,H,ad,h,R=>by
  unfold YS;induction hk:k==YI using Vu with
  |false=>
   have e:ak ((n,k)::r)=ak r:=by unfold ak;rw[Y2];simp[hk]
   rw[e];exact HR.cells r H ad h R
  |true=>
   have e:ak ((n,k)::r)=n::ak r:=by unfold ak;rw[Y2];simp[hk]
   rw[e];simp only[if_true];have R1:=R.alloc (h':=h.push {cls:=.type "cell",data:=.cell none}) (ao:=.cell none) (o:={cls:=.type "cell",data:=.cell none}) (a:=h.objs.size) (fun b o e=>Vx _ e) (Wd (VB _)) (V_ _ rfl) (i0 none rfl trivial);have R2:=HR.cells r _ _ _ R1;rw[WS]at R2;rw[VT,List.range_succ_eq_map,VL,List.map_map,List.replicate_succ];have e1:ad++(h.objs.size+0)::List.map ((h.objs.size+·)∘ZW) (VE (ak r).length)=(ad++[h.objs.size])++(VE (ak r).length).map (h.objs.size+1+·):=by
    rw[Wn]
    congr 1
    show _::_=_::_
    congr 1
    refine List.map_congr_left fun x _=>?_;show h.objs.size+(x+1)=h.objs.size+1+x;exact Nq
   have e2:H++AO.cell none::VJ (ak r).length (AO.cell none)=(H++[AO.cell none])++VJ (ak r).length (AO.cell none):=by rw[Wn];rfl
   rw[e1,e2];exact R2
def DR(cc:CC)(c:FC)(b:Nat)(p:PK)(x:Str):Prop:=match p with
 |.l i=>la cc c i x
 |.c j=>c.env.scope.names.lookup x=some .cell/\∃jj:Nat,c.cn[jj]?=some x/\c.cl[jj]?=some (b+j)
def pM(O:aO cc)(eo:ay c)(f:Str×Vq->PUnit->Sem (ForInStep PUnit))(hf:∀n v u,f (n,v) u=(do ZM c.env n v;pure (.yield ⟨⟩)))(hp:aw (DR cc c b) ps xs):
  ∀(vs:List AV)(us:List Vq)(loc:aM)(H:AH)(s:Vo)(QL:aM->AH->Prop)(QP:PUnit->Vo->Prop),FS cc c loc H ad hd s->aw (VR ad) vs us->(∀j,PK.c j∈ps->∃v,H[b+j]?=some (.cell v))->
   cU b ps vs loc H QL->(∀loc' H' s',Tr ad H hd ad H' hd->FS cc c loc' H' ad hd s'->QL loc' H'->QP ⟨⟩ s')->Vy (Vt cc.prog cc.w) A (forIn (xs.zip us) PUnit.unit f) QP Er s:=by
 induction hp with
 |nil=>
  intro vs us loc H s QL QP F r hc d q;cases r with
  |nil=>
   rw[YQ,Zl];exact Vp (q _ _ _ (.refl _ _ _) F d)
  |cons=>exact d.elim
 | @cons p x ps xs h1 h2 ih=>
  intro vs us loc H s QL QP F r hc d q;cases r with
  |nil=>induction p using PK.casesOn<;>exact d.elim
  |cons r1 r2=>
   rw[WN,Yr,hf];have hc':∀j,PK.c j∈ps->∃v,H[b+j]?=some (.cell v):=fun j hj=>hc j (Vj _ hj);induction p using PK.casesOn with
   |l i=>
    refine Vi (Vi (df O eo F h1.nm h1.lo r1 fun s' F'=>Vp ?_));exact ih _ _ _ _ _ QL QP F' r2 hc' d q
   |c j=>
    refine JV h1 fun hl jj hj1 hj2=>?_;refine o8 (hc j (Vl ..)) fun v0 hv0=>?_;refine Vi (Vi (sh (QS:=fun H'=>cU b ps _ loc H' QL/\H'=H.set (b+j) (.cell (some _))) eo F hj1 hl r1 (⟨_,_,hj2,hv0,d,rfl⟩) fun H' s' T' F' d'=>Vp ?_));obtain⟨d',rfl⟩:=d';refine ih _ _ _ _ _ QL QP F' r2 (fun j' hj'=>?_) d' fun loc' H' s' T F q'=>q _ _ _ (T'.trans T) F q';obtain⟨v1,hv1⟩:=hc' j' hj';by_cases hjj:b+j=b+j'
    ·rw[hjj,W0 (Vn.mp hv1).1];exact⟨_,rfl⟩
    ·rw[Xa hjj];exact⟨v1,hv1⟩
noncomputable abbrev envC(fd:FuncData)(L a:Addr):Env:=newEnv fd.scope L fd.globals (ZN (L+1) fd.scope.names fd.closure) (fd.qualname++".<locals>.") (some a) fd.code none fd.builtins
theorem pos?_of_get:∀{l:List Str}{j:Nat},l.Nodup->l[j]?=some x->pos? x l=some j
 |y::r,0,hn,e=>by(injection e with e;subst e);rw[pos?_cons,beq_self_eq_true];rfl
 |y::r,j+1,hn,e=>by
  rw[VQ]at hn;have:(y==x)=false:=beq_eq_false_iff_ne.mpr fun q=>hn.1 (q▸VP (i:=j) e);rw[pos?_cons,this,pos?_of_get (l:=r) hn.2 e];rfl
def uS(O:aO cc){a:Addr}{o:Obj}{fd:FuncData}{body:List Stmt}{vals us:List Vq}{xs fn:List Str}{cl0:List Nat}{ps:List PK}{args:List AV}{D:Nat->sx}
  (C:g_ cc k hn hd0 A fr H ad hd s)(hk:1<=k)(ho:s.heap.get? a=some o)(hdat:o.data=.func fd)(hcode:s.heap.CodeRec fd.code fd.qualname)(hbody:fd.body=.stmts body)
  (hg:fd.globals=mainGlobals)(hb:fd.builtins=W4)(hbind:Xp s fd ⟨vals,[]⟩ (xs.zip us))(hown:(ak fd.scope.names).Nodup)
  (hps:∀L,aw (DR cc ⟨envC fd L a,ak fd.scope.names++fn,(VE (ak fd.scope.names).length).map (H.length+·)++cl0,fr,hn,hd0⟩ H.length) ps xs) (hpc:∀j,PK.c j∈ps->j<(ak fd.scope.names).length)
  (hr:aw (VR ad) args us)
  (hfn:∀(j:Nat)(x:Str),fn[j]?=some x->pos? x (ak fd.scope.names)=none/\∃a i,fd.closure.lookup x=some a/\cl0[j]?=some i/\ad[i]?=some a)
  (hs:∀L,bx ⟨envC fd L a,ak fd.scope.names++fn,(VE (ak fd.scope.names).length).map (H.length+·)++cl0,fr,hn,hd0⟩ (A.deeper (envC fd L a)) (k-1)->aR ⟨envC fd L a,ak fd.scope.names++fn,(VE (ak fd.scope.names).length).map (H.length+·)++cl0,fr,hn,hd0⟩ (A.deeper (envC fd L a))->bc cc ⟨envC fd L a,ak fd.scope.names++fn,(VE (ak fd.scope.names).length).map (H.length+·)++cl0,fr,hn,hd0⟩ (A.deeper (envC fd L a)) (Wt body (envC fd L a)) (D (k-1)))
  (d:cU H.length ps args [] (H++VJ (ak fd.scope.names).length (.cell none)) (fun loc H'=>bB H H'->D (k-1) loc H' (lR Q) (fun _=>E)))(en:Ends cc hn fr H ad hd Q E R)
  (hco:fd.scope.isCoroutine=false:=by rfl) (hgen:fd.scope.isGenerator=false:=by rfl) (hkind:fd.scope.kind=.function:=by rfl):
  Yj (Vt cc.prog cc.w) A (.call (.ref a) ⟨vals,[]⟩) R s:=by
 refine codeAny_call_function (Xw (Xl _ _) C.room) ho hdat hco hgen hbody hcode (hbind _ _ _ _ ?_);simp only[Yi,YC,V0,if_false];refine Vi (wpAny_alloc ?_);refine Vi (wpAny_layCells _ (fun name kind cells=>by induction hkc:kind==YI using Vu<;>simp[hkc]) _ _ _ _ ?_);rw[show({s with heap:=s.heap.push {cls:=.type "frame",data:=.dict #[]}}:Vo).heap.objs.size=s.heap.objs.size+1 from WS ..];generalize hL:s.heap.objs.size=L;have hlen:=C.hr.len;have hkeep1:∀b ob,s.heap.get? b=some ob->(s.heap.push {cls:=.type "frame",data:=.dict #[]}).get? b=some ob:=fun b ob e=>Vx _ e;have R1:=(C.hr.grow hkeep1).cells fd.scope.names;rw[WS,hL]at R1;have hfresh:∀b ob,s.heap.get? b=some ob->b≠L:=fun b ob e=>hL▸WO (Wb e);have hown0:L∉tot cc fr hd ad:=fun m=>by
  refine o8 (C.hr.live m) fun ob e=>?_;exact hfresh _ _ e rfl
 have hown1:L∉tot cc fr hd (ad++(VE (ak fd.scope.names).length).map (L+1+·)):=fun m=>by
  rcases Vs.mp m with m|m
  ·rcases Vs.mp m with m|m
   ·exact hown0 (Vk _ m)
   ·refine o1 (Wj.mp m) fun i _ e=>?_;exact Ih e
  ·exact hown0 (Vh _ m)
 have hns:(YS (s.heap.push {cls:=.type "frame",data:=.dict #[]}) fd.scope.names).Ns L (fun _=>none):=by
  rw[←hL];exact(Heap.Ns.new s.heap (.type "frame")).keeps (pushCells_keeps _ _)
 have T1:Tr ad H hd (ad++(VE (ak fd.scope.names).length).map (L+1+·)) (H++VJ (ak fd.scope.names).length (.cell none)) hd:=⟨VA ..,.snoc _ _,.refl _⟩
 have F:FS cc ⟨envC fd L a,ak fd.scope.names++fn,(VE (ak fd.scope.names).length).map (H.length+·)++cl0,fr,hn,hd0⟩ [] (H++VJ (ak fd.scope.names).length (.cell none)) (ad++(VE (ak fd.scope.names).length).map (L+1+·)) hd
   {s with heap:=YS (s.heap.push {cls:=.type "frame",data:=.dict #[]}) fd.scope.names}:=by
  refine⟨(i0 _ hns (fun i v e=>by cases e)),R1,hown1,hL▸C.sz,fun j x hj hx=>?_,C.hdl.tr T1,⟨C.oth.gens,C.oth.drawn,C.oth.os⟩⟩;show∃a i,(ZN (L+1) fd.scope.names fd.closure).lookup x=some a/\_;rw[cY _ _ _ hown];by_cases hlt:j<(ak fd.scope.names).length
  ·rw[VF hlt]at hj;rw[pos?_of_get hown hj];refine i1 (L+1+j) (H.length+j) rfl ?_ ?_
   ·rw[VF (by rw[VI,WE];exact hlt)];simp[hlt]
   ·rw[Vm (by exact Ii hlen),show H.length+j-ad.length=j by exact Ij hlen];simp[hlt]
  ·rw[Vm (by exact ng hlt)]at hj;refine HT (hfn _ x hj) fun h1 a' i h2 h3 h4=>?_;rw[h1];refine i1 a' i h2 ?_ (aX T1.ad h4);rw[Vm (by rw[VI,WE];exact ng hlt),VI,WE];exact h3
 have eo:ay ⟨envC fd L a,ak fd.scope.names++fn,(VE (ak fd.scope.names).length).map (H.length+·)++cl0,fr,hn,hd0⟩:=⟨hkind,hg,hb⟩
 refine Vi (pM (c:=⟨envC fd L a,ak fd.scope.names++fn,(VE (ak fd.scope.names).length).map (H.length+·)++cl0,fr,hn,hd0⟩) O eo _ (fun _ _ _=>rfl) (hps L) args us [] _ _ _ _ F (hr.mono fun _ _ x=>x.mono T1.ad)
  (fun j hj=>(i4 none (by rw[Vm (by exact Ie),show H.length+j-H.length=j by exact Ik];simp[hpc j hj]))) d fun loc' H' s' T' F' d'=>Vp ?_)
 refine⟨O.rd.nolimit.keeps F'.hr.keep,codeAny_func ?_⟩;refine o1 C.frames fun envs e1 e2=>?_;have T2:=T1.trans T';have ao:bx ⟨envC fd L a,ak fd.scope.names++fn,(VE (ak fd.scope.names).length).map (H.length+·)++cl0,fr,hn,hd0⟩ (A.deeper (envC fd L a)) (k-1):=by
  refine⟨?_,?_,(i0 (envC fd L a::envs) (by show A.frames.map _=_;rw[e1];rfl) (fun e he=>?_)),C.hnd,C.hn⟩
  ·have:=C.room;show A.depth+1+(k-1)<WC;exact Au this hk
  ·have:=C.units;show A.units+3+10*(k-1)<cLine;exact Av this hk
  ·rcases Vv.mp he with rfl|he
   ·exact uX (by show fd.scope.kind≠.module;rw[hkind];decide) _ rfl (.inl rfl)
   ·refine HT (e2 e he) fun k1 b ob k2 k3 k4=>?_;exact uX k1 b k2 (.inr ⟨ob,k3,k4⟩)
 have tp:aR ⟨envC fd L a,ak fd.scope.names++fn,(VE (ak fd.scope.names).length).map (H.length+·)++cl0,fr,hn,hd0⟩ (A.deeper (envC fd L a)):=⟨(i4 envs (by show A.frames.map _=_;rw[e1];rfl)),rfl⟩
 exact xK F' ao tp (hs L ao tp) (d' T2.H) ⟨fun v H'' ad'' hd'' s'' x T R o r q=>en.ret v H'' ad'' hd'' s'' x (T2.trans T) R o r q,fun H'' ad'' hd'' s'' ea T R o fl q=>en.err H'' ad'' hd'' s'' ea (T2.trans T) R o fl q⟩
end
section
variable{cc:CC}{c:FC}{A:VN}{Γ:cM}{k:Nat}{loc loc1:aM}{sc:VZ}{H:AH}{ad:List Addr}{hd:Hid}{s:Vo}{h h':Heap}{fr:List (Addr×Obj)}
def pF(cc:CC)(hd:Hid)(cE P:Addr):Nat->Prop
 |0=>P=cc.tE
 |1=>P=cc.tG
 |2=>∃o x,hd.g=some (cE,o,P,x)
 |_=>False
noncomputable def Hid.add(hd:Hid)(a:Addr)(o:Obj)(P:Addr):Nat->Hid
 |0=>{hd with e:=some (a,o)}
 |1=>{hd with g:=some (a,o,P,none)}
 |_=>{hd with g:=hd.g.map fun q=>(q.1,q.2.1,q.2.2.1,some (a,o))}
def pF.mem:∀{d:Nat},pF cc hd cE P d->(P,Wz (fG (cc.cdat d).pos (hd.code d)))∈hd.objs cc
 |0,t=>by subst t;exact Vl ..
 |1,t=>by subst t;exact Vj _ (Vl ..)
 |2,t=>by
  refine o5 t fun o x e=>?_;unfold Hid.objs Hid.code;rw[e];induction x using Option.casesOn with
  |none=>exact Vj _ (Vj _ (Vh _ (Vj _ (Vl ..))))
  |some q=>exact Vj _ (Vj _ (Vh _ (Vj _ (Vl ..))))
noncomputable def DN(cc:CC):Option (Addr×Obj×Addr×Option (Addr×Obj))->List (Addr×Obj)
 |none=>[]
 |some (a,o,P,x)=>(a,o)::(P,Wz (fG (cc.cdat 2).pos (x.map (·.1))))::x.toList
def bO(he:Option (Addr×Obj))(hg:Option (Addr×Obj×Addr×Option (Addr×Obj))):Hid.objs cc ⟨he,hg⟩=
  (cc.tE,Wz (fG (cc.cdat 0).pos (he.map (·.1))))::(cc.tG,Wz (fG (cc.cdat 1).pos (hg.map (·.1))))::(he.toList++DN cc hg):=by
 unfold Hid.objs DN;rfl
structure HW(cc:CC)(hd hd':Hid)(P a P':Addr)(o:Obj)(d:Nat)(news:List Addr):Prop where
 sub:∀b∈news,b=a\/b=P'
 nd:news.Nodup
 perm:((hd'.objs cc).map (·.1)).Perm (news++(hd.objs cc).map (·.1))
 objs:∀p∈hd'.objs cc,(p∈hd.objs cc/\p.1≠P)\/p=(P,Wz (fG (cc.cdat d).pos (some a)))\/p=(a,o)\/p=(P',Wz #[])
 le:hd.le hd'
 code:hd'.code d=some a
 ok:hd'.Ok cc
def Ib(nd:((hd.objs cc).map (·.1)).Nodup)(ok:hd.Ok cc)(t:pF cc hd cE P d)(hn:hd.code d=none)
  (hq:k9 o (cc.cdat d).qual)(hco:lW o a P'):∃news,HW cc hd (hd.add a o P' d) P a P' o d news:=by
 have naP:a≠P':=by
  refine UQ hco fun vs file tf flags tg inF text tt _ _ _ _ _ _ _ _ n=>?_;exact n
 obtain⟨he,hg⟩:=hd
 match d,t with
 |0,t=>
  have:he=none:=by induction he using Option.casesOn with|none=>rfl|some q=>cases hn
  subst this;subst t;rw[bO,VL,VQ]at nd;refine⟨[a],fun b hb=>.inl (V8.mp hb),by simp,?_,?_,?_,rfl,⟨?_,ok.g,ok.h⟩⟩
  ·rw[bO];show((Hid.objs cc ⟨some (a,o),hg⟩).map (·.1)).Perm _;rw[bO];exact(List.Perm.cons _ (List.Perm.swap ..)).trans (List.Perm.swap ..)
  ·show∀p∈Hid.objs cc ⟨some (a,o),hg⟩,_;rw[bO,bO];intro p hp;rcases Vv.mp hp with rfl|hp
   ·exact .inr (.inl rfl)
   ·have hp':p=(a,o)\/p∈(cc.tG,Wz (fG (cc.cdat 1).pos (hg.map (·.1))))::((none:Option (Addr×Obj)).toList++DN cc hg):=by
     rcases Vv.mp hp with rfl|hp
     ·exact .inr (Vl ..)
     ·rcases Vv.mp hp with rfl|hp
      ·exact .inl rfl
      ·exact .inr (Vj _ hp)
    rcases hp' with rfl|hp'
    ·exact .inr (.inr (.inl rfl))
    ·exact .inl ⟨Vj _ hp',fun q=>nd.1 (by have z:=Vz (f:=Wr) hp';rw[q]at z;exact z)⟩
  ·intro d' a' e
   match d',e with
   |0,e=>cases e
   |1,e=>exact e
   |2,e=>exact e
  ·intro a' o' e;cases e;exact hq
 |1,t=>
  have:hg=none:=by induction hg using Option.casesOn with|none=>rfl|some q=>cases hn
  subst this;subst t;rw[bO,VL,VL,VQ,VQ]at nd;refine⟨[a,P'],fun b hb=>by simpa using hb,by simp[naP],?_,?_,?_,rfl,⟨ok.e,?_,?_⟩⟩
  ·show((Hid.objs cc ⟨he,some (a,o,P',none)⟩).map (·.1)).Perm _;rw[bO,bO];simp only[DN,VL,Yq,Z4,Zy,Y9,VW];refine(Y3.trans (l₂:=cc.tE::cc.tG::(a::P'::he.toList.map (·.1))) (.cons _ (.cons _ ?_)) ?_)
   ·exact Yd (l₂:=[a,P'])
   ·show(([cc.tE,cc.tG]++[a,P'])++_).Perm (([a,P']++[cc.tE,cc.tG])++_);exact List.Perm.append_right _ Yd
  ·show∀p∈Hid.objs cc ⟨he,some (a,o,P',none)⟩,_;rw[bO,bO];intro p hp;have hp':p=(cc.tG,Wz (fG (cc.cdat 1).pos (some a)))\/p=(a,o)\/p=(P',Wz #[])\/p=(cc.tE,Wz (fG (cc.cdat 0).pos (he.map (·.1))))\/p∈he.toList:=by
    simp only[DN,fG,Z4,Zy,Vv,Vs,WD,or_false]at hp;rcases hp with hp|hp|hp|hp|hp
    ·exact .inr (.inr (.inr (.inl hp)))
    ·exact .inl hp
    ·exact .inr (.inr (.inr (.inr hp)))
    ·exact .inr (.inl hp)
    ·exact .inr (.inr (.inl hp))
   rcases hp' with hp|hp|hp|hp|hp
   ·exact .inr (.inl hp)
   ·exact .inr (.inr (.inl hp))
   ·exact .inr (.inr (.inr hp))
   ·refine .inl ⟨by rw[hp];exact Vl ..,fun q=>nd.1 ?_⟩;rw[hp]at q;rw[q];exact Vl ..
   ·refine .inl ⟨Vj _ (Vj _ (Vk _ hp)),fun q=>nd.2.1 ?_⟩;have z:=Vz (f:=Wr) (Vk (DN cc none) hp);rw[q]at z;exact z
  ·intro d' a' e
   match d',e with
   |0,e=>exact e
   |1,e=>cases e
   |2,e=>cases e
  ·intro a' o' P1 x e;cases e;exact⟨hq,hco⟩
  ·intro a' o' P1 b ob e;cases e
 |2,t=>
  refine o5 t fun o1 x e=>?_;dsimp only at e;subst e;have:x=none:=by induction x using Option.casesOn with|none=>rfl|some q=>cases hn
  subst this;rw[bO]at nd;have ndl:=nd;rw[VL,VL,VQ,VQ]at nd;have hgl:DN cc (some (cE,o1,P,none))=[(cE,o1),(P,Wz (fG (cc.cdat 2).pos none))]:=rfl;refine⟨[a],fun b hb=>.inl (V8.mp hb),by simp,?_,?_,?_,rfl,⟨ok.e,?_,?_⟩⟩
  ·show((Hid.objs cc ⟨he,some (cE,o1,P,some (a,o))⟩).map (·.1)).Perm _;rw[bO,bO];simp only[DN,VL,Yq,Z4,Y5,Zy,Option.toList_some,Y9,VW];have e:cc.tE::cc.tG::(he.toList.map (·.1)++[cE,P,a])=(cc.tE::cc.tG::(he.toList.map (·.1)++[cE,P]))++[a]:=by simp
   rw[e];exact Yd
  ·show∀p∈Hid.objs cc ⟨he,some (cE,o1,P,some (a,o))⟩,_;rw[bO,bO];have hpre:P∉cc.tE::cc.tG::(he.toList.map (·.1)++[cE]):=by
    have e:((cc.tE,Wz (fG (cc.cdat 0).pos (he.map (·.1))))::(cc.tG,Wz (fG (cc.cdat 1).pos ((some (cE,o1,P,(none:Option (Addr×Obj)))).map (·.1))))::(he.toList++DN cc (some (cE,o1,P,none)))).map (·.1)=
      (cc.tE::cc.tG::(he.toList.map (·.1)++[cE]))++[P]:=by rw[hgl];simp
    rw[e]at ndl;intro m;exact(VX.mp ndl).2.2 P m P (V8.mpr rfl) rfl
   intro p hp;have hp':p=(P,Wz (fG (cc.cdat 2).pos (some a)))\/p=(a,o)\/p∈(cc.tE,Wz (fG (cc.cdat 0).pos (he.map (·.1))))::(cc.tG,Wz (fG (cc.cdat 1).pos (some cE)))::(he.toList++[(cE,o1)]):=by
    simp only[DN,Vv,Vs,WD,or_false,Y5,Option.toList_some]at hp⊢;rcases hp with hp|hp|hp|hp|hp|hp
    ·exact .inr (.inr (.inl hp))
    ·exact .inr (.inr (.inr (.inl hp)))
    ·exact .inr (.inr (.inr (.inr (.inl hp))))
    ·exact .inr (.inr (.inr (.inr (.inr hp))))
    ·exact .inl hp
    ·exact .inr (.inl hp)
   rcases hp' with hp|hp|hp
   ·exact .inr (.inl hp)
   ·exact .inr (.inr (.inl hp))
   ·refine .inl ⟨?_,fun q=>hpre ?_⟩
    ·rw[hgl];simp only[Vv,Vs,WD,or_false,Y5]at hp⊢;rcases hp with hp|hp|hp|hp
     ·exact .inl hp
     ·exact .inr (.inl hp)
     ·exact .inr (.inr (.inl hp))
     ·exact .inr (.inr (.inr (.inl hp)))
    ·have z:=Vz (f:=Wr) hp;rw[q]at z
     simpa using z
  ·intro d' a' e
   match d',e with
   |0,e=>exact e
   |1,e=>exact e
   |2,e=>cases e
  ·intro a' o' P1 x e;cases e;exact ok.g _ _ _ _ rfl
  ·intro a' o' P1 b ob e;cases e;exact hq
def HR.addHid(R:HR cc fr hd ad H h)(t:pF cc hd cE P d)(hn:hd.code d=none)(x:Wa P h h')
  (hP:h'.get? P=some (Wz (fG (cc.cdat d).pos (some a))))(ha:h.get? a=none)(ea:h'.get? a=some o)(hq:k9 o (cc.cdat d).qual)(hco:lW o a P')(hP':h.get? P'=none)
  (eP':h'.get? P'=some (Wz #[])):
  HR cc fr (hd.add a o P' d) ad H h'/\hd.le (hd.add a o P' d)/\(hd.add a o P' d).code d=some a/\(∀b∈tot cc fr (hd.add a o P' d) ad,b∈tot cc fr hd ad\/b=a\/b=P'):=by
 have mP:P∈(hd.objs cc).map (·.1):=Vz (f:=Wr) t.mem;have nd0:=VX.mp R.nodup;have nd1:=VX.mp nd0.2.1;refine o8 (Ib (P':=P') (a:=a) nd1.2.1 R.hok t hn hq hco) fun news K=>?_;have fresh:∀b,b=a\/b=P'->h.get? b=none:=fun b hb=>by rcases hb with rfl|rfl<;>assumption
 have perm:(tot cc fr (hd.add a o P' d) ad).Perm (news++tot cc fr hd ad):=by
  show(ad++(fr.map (·.1)++_)).Perm (news++(ad++(fr.map (·.1)++_)));rw[←Wn,←Wn ad];refine(List.Perm.append_left _ K.perm).trans ?_;rw[←Wn,←Wn news];exact List.Perm.append_right _ Yd
 have hPa:∀b∈ad++fr.map (·.1),b≠P:=fun b hb q=>by
  subst q;rcases Vs.mp hb with m|m
  ·exact nd0.2.2 _ m _ (Vh _ mP) rfl
  ·exact nd1.2.2 _ m _ mP rfl
 refine⟨⟨fun b ob e=>x b ob (fun q=>?_) (R.keep b ob e),R.len,perm.nodup_iff.mpr ?_,fun b hb=>?_,fun i ao e=>?_,fun p hp=>?_,fun p hp=>?_,K.ok⟩,K.le,K.code,fun b hb=>?_⟩
 ·subst q;rw[R.new b (Vh _ (Vh _ mP))]at e;injection e
 ·exact VX.mpr ⟨K.nd,R.nodup,fun b hb b' hb' q=>by subst q;exact R.fresh (fresh _ (K.sub _ hb)) hb'⟩
 ·rcases Vs.mp (perm.mem_iff.mp hb)with m|m
  ·exact R.freshG (fresh _ (K.sub _ m))
  ·exact R.new b m
 ·refine o6 (R.obj i ao e) fun b ob e1 e2 r=>?_;exact i1 b ob e1 (x b ob (hPa b (Vk _ (VP e1))) e2) (r.mono K.le (Yg _))
 ·refine o8 (R.frm p hp) fun sl e=>?_;exact i4 sl (x _ _ (hPa p.1 (Vh _ (Vz hp))) e)
 ·rcases K.objs p hp with⟨m,n⟩|rfl|rfl|rfl
  ·exact x _ _ n (R.hid p m)
  ·exact hP
  ·exact ea
  ·exact eP'
 ·rcases Vs.mp (perm.mem_iff.mp hb)with m|m
  ·exact .inr (K.sub _ m)
  ·exact .inl m
def wY(it:Addr)(x left step:Int)(sl:Array (Option Vq))(hc0:¬left<=0):
  Meets (VD.«range_iterator.__next__» ⟨[.ref it],[]⟩) (fun _ R s=>s.heap.get? it=some {cls:=.type "range_iterator",dict:=none,data:=.fields #[rawInt x,rawInt left,rawInt step],slots:=sl}/\R (.ok (.ret (Value.int x s.toks))) {s with heap:=(s.heap.update it (Wc fun x_1=>x_1.setIfInBounds 0 (rawInt (x+step)))).update it (Wc fun x=>x.setIfInBounds 1 (rawInt (left-1))),toks:=s.toks+1}):=
 .of_wp fun prog w A R s h=>by obtain⟨hp,g,d,tk,os⟩:=s;refine kY h fun hl h=>?_;wp_walk;exact i0 _ rfl h
structure Ka(cc:CC)(A:VN)(I:Addr)(ItO:Nat->Obj->Prop)(side:AH->List Addr->Prop)(items:List AV):Prop where
 slot:∀i o sl,ItO i o->ItO i {o with slots:=sl}
 item:∀(i:Nat) (v:AV) (H:AH) (ad:List Addr) (hd:Hid) (fr:List (Addr×Obj)) (s:Vo) (Q:Option Vq->Vo->Prop) (E:d_) (oI:Obj),items[i]?=some v->HR cc fr hd ad H s.heap->side H ad->s.heap.get? I=some oI->ItO i oI->
  (∀x h' tk oI',VR ad v x->h'.get? I=some oI'->ItO (i+1) oI'->Wa I s.heap h'->Q (some x) {s with heap:=h',toks:=tk})->Vy (Vt cc.prog cc.w) A (pyNext (.ref I)) Q E s
 done:∀(H:AH) (ad:List Addr) (hd:Hid) (fr:List (Addr×Obj)) (s:Vo) (Q:Option Vq->Vo->Prop) (E:d_) (oI:Obj),HR cc fr hd ad H s.heap->side H ad->s.heap.get? I=some oI->ItO items.length oI->
  (∀h',Wa I s.heap h'->Q none {s with heap:=h'})->Vy (Vt cc.prog cc.w) A (pyNext (.ref I)) Q E s
 self:∀i s (Q:Vq->Vo->Prop) (E:d_) (oI:Obj),s.heap.get? I=some oI->ItO i oI->Q (.ref I) s->Vy (Vt cc.prog cc.w) A (pyIter (.ref I)) Q E s
def yn(m:Int)(i:Nat)(o:Obj):Prop:=∃sl,o={cls:=.type "range_iterator",dict:=none,data:=.fields #[rawInt (i:Int),rawInt (m-(i:Int)),rawInt 1],slots:=sl}
def jO(l:Addr)(i:Nat)(o:Obj):Prop:=o.cls=.type "list_iterator"/\o.data=.fields #[.ref l,.int i 0]
def z7{I:Addr}{m:Int}(hm:0<=m)(hh:A.handled=none):Ka cc A I (yn m) (fun _ _=>True) (bH m):=by
 have len:(bH m).length=m.toNat:=by simp[bH]
 refine⟨fun i o sl ⟨sl0,e⟩=>(i4 sl (by rw[e])),?_,?_,?_⟩
 ·intro i v H ad hd fr s Q E oI hi R _ hI ⟨sl,e⟩ q;subst e;have hlt:i<m.toNat:=by
   have:=(Vn.mp hi).1
   rwa [len]at this
  have hv:v=.int (i:Int):=by
   unfold bH at hi;rw[Ww,List.getElem?_range hlt]at hi;(injection hi with hi;subst hi);rfl
  subst hv;have hT:s.TypeIs (.ref I) "range_iterator":=(i0 _ hI rfl)
  unfold pyNext;refine Vi (Z0 (Ze (name:=Vg "__next__") hT F.slot_range_iterator_next
   (call_meets F.slot_range_iterator_next hT F.entry_range_iterator_next (F.args_range_iterator_next_1 _) (wY I (i:Int) (m-(i:Int)) 1 sl (by omega)) ⟨hI,?_⟩)))
  refine Vp (q (.int (i:Int) s.toks) _ _ _ (i4 _ rfl) (WL _ (WL _ hI rfl) rfl) (i4 sl ?_) ((Xx ..).trans (Xx ..)).extBut);have e2:m-(i:Int)-1=m-((i:Int)+1):=by exact Sb
  simp[Wc,e2]
 ·intro H ad hd fr s Q E oI R _ hit ⟨sl,e⟩ hQ;subst e;rw[len]at hit;have hT:s.TypeIs (.ref I) "range_iterator":=(i0 _ hit rfl)
  unfold pyNext;refine Vi (Z0 (Ze (name:=Vg "__next__") hT F.slot_range_iterator_next
   (Zd F.slot_range_iterator_next hT F.entry_range_iterator_next ?_ (F.args_range_iterator_next_1 _))))
  show Vy _ _ (field (.ref I) 0>>=_) _ _ s;refine Vi (WA hit rfl (x:=rawInt _) rfl ?_);show Vy _ _ (field (.ref I) 1>>=_) _ _ s;refine Vi (WA hit rfl (x:=rawInt _) rfl ?_);show Vy _ _ (field (.ref I) 2>>=_) _ _ s;refine Vi (WA hit rfl (x:=rawInt 1) rfl ?_);show Vy _ _ (if m-((m.toNat:Nat):Int)<=0 then _ else _) _ _ s;rw[if_pos (by omega)];refine Vi (Yt ?_);refine Vi ?_;show Vy _ _ (newExc (.type "StopIteration") []>>=_) _ _ _;refine Vi ?_;simp only[newExc,newTuple];refine Vi (Wl ?_ LU);refine Vi (m:=ZI _ _) (WM (a:=We) (by first|rfl|(simp only[ZI];rfl)) ?_);refine Wl ?_ (by size_fits);delta raiseNew;dsimp only;refine Vi (wpAny_handled ?_)
  first|rw[show A.in1.handled=none from hh]|rw[hh]
  refine Vi (Vp (wpAny_throw ?_));refine Vi (XQ (T:="StopIteration") (b:=true) (i0 _ (V_ _ rfl) rfl) isSubtype_stop ?_);exact Vp (hQ _ (((Heap.ExtBut.refl I s.heap).push _).push _))
 ·intro i s Q E oI hI ⟨sl,e⟩ q;subst e;have hT:s.TypeIs (.ref I) "range_iterator":=(i0 _ hI rfl)
  refine wpAny_pyIter_slot hT F.slot_range_iterator_iter (Zd F.slot_range_iterator_iter hT F.entry_range_iterator_iter ?_ (F.args_range_iterator_iter_1 _));show Vy _ _ (ret (.ref I)) _ _ s;exact Vp ⟨_,rfl,"range_iterator",_,hT,F.slot_range_iterator_next.lookup,q⟩
def qV{j:Nat}(hh:A.handled=none)(hne:ax≠I):Ka cc A I (jO ax) (fun H ad=>H[j]?=some (.list src)/\ad[j]?=some ax) src:=by
 have get:∀{H ad hd fr h},HR cc fr hd ad H h->(H[j]?=some (AO.list src)/\ad[j]?=some ax)->∃vs,h.IsList ax vs/\aw (VR ad) src vs.toList:=by
  intro H ad hd fr h R ⟨e1,e2⟩;refine RE (R.obj _ _ e1) fun a o a1 a2 vs a3 n a4 a5=>?_;rw[e2]at a1;(injection a1 with a1;subst a1);exact i0 vs ⟨o,a2,a3,n,a4⟩ a5
 refine⟨fun i o sl e=>e,?_,?_,?_⟩
 ·intro i v H ad hd fr s Q E oI hi R sd hI ht q;refine o1 (get R sd) fun vs hl r=>?_;refine o1 (r.get hi) fun x hx hr=>?_;refine wpAny_pyNext_list_item (i0 oI hI ht) hl (x:=x) (by rw[←Yc];exact hx) fun h' hit' hs'=>?_;refine o1 hit' fun oI' e1 e2=>?_;exact q x h' s.toks oI' hr e1 e2 hs'.extBut
 ·intro H ad hd fr s Q E oI R sd hI ht q;refine o1 (get R sd) fun vs hl r=>?_;refine wpAny_pyNext_list_end hh (i0 oI hI ht) hl ?_ q;rw[←Yc,W_];rw[←r.length];exact VB _
 ·intro i s Q E oI hI ht q;exact wpAny_pyIter_listiter (i0 oI hI ht) q
def aY:Xk (.type "bytes") (Vg "__buffer__")=pure (some (.builtin "bytes.__buffer__")):=by rw[V7,VO];kernel_rfl
def g9:Xk (.type "bytes") (Vg "__release_buffer__")=pure none:=by rw[V7,VO];kernel_rfl
def zl(b:Array UInt8)(t:Tok)(k:Int)(u:Tok)(h0:0<=k)(h1:k<256):
  Meets (VD.«bytes.__contains__» ⟨[.bytes b t,.int k u],[]⟩) (fun _ R s=>R (.ok (.ret (.bool (b.contains k.toNat.toUInt8)))) s):=
 .of_wp fun prog w A R s h=>by
  obtain⟨hp,g,d,tk,os⟩:=s;have hc:(decide (k<0)||decide (k≥256))=false:=by simp;exact Sl h0 h1
  wp_walk;refine WM aY ?_;wp_walk;refine WM aY ?_;dsimp only;rw[if_neg (by decide+kernel)];wp_walk;rw[show("bytes.__buffer__".dropRight ("__buffer__".length+1))="bytes"from by decide+kernel];refine WM (a:=true) (by rw[Wk];kernel_rfl) ?_;wp_walk;refine WM aY ?_;show Vy _ _ (WI (.bytes b t)>>=_) _ _ _;unfold WI Wx;refine Vi (Vi (Vi (Wg (VV _ _ _) g9 ?_)));refine Vp (Vp ?_);rw[if_neg (by decide)];refine Vi (Vi (Vp (Vp (Vp ?_))));dsimp only;rw[hc,if_neg (by decide)];exact Vp (Vp (i0 _ rfl h))
def Jy{k:Int}(h0:0<=k)(h1:k<256)(q:Qr (.bool (b.contains k.toNat.toUInt8)) s):
  Vy (Vt prog w) A (Zg .In (.int k u) (.bytes b t)) Qr Er s:=by
 refine In_slot (VV _ _ _) FB.slot_bytes_contains (call_meets FB.slot_bytes_contains (VV _ _ _) FB.entry_bytes_contains (FB.args_bytes_contains_2 _ _) (zl b t k u h0 h1) ?_);exact Vp q
def Jx{b:List UInt8}{k:Int}(h0:0<=k)(h1:k<256):b.toArray.contains k.toNat.toUInt8=b.any fun c=>decide ((c.toNat:Int)=k):=by
 rw[List.contains_toArray,List.contains_eq_any_beq]
 congr 1
 funext c
 rw[Bool.eq_iff_iff,beq_iff_eq,decide_eq_true_iff];have hk:(k.toNat.toUInt8).toNat=k.toNat:=by
  rw[Nat.toUInt8,UInt8.toNat_ofNat'];omega
 constructor
 ·intro e;rw[←e,hk];omega
 ·intro e;apply UInt8.toNat_inj.mp;rw[hk];omega
section
variable{prog:WU}{w:XC}{id:String}{b:Array UInt8}{t:Tok}{E:d_}
def vr(q:Q true s):Vy (Vt prog w) A (Wx (.bytes b t) "__buffer__") Q E s:=by
 unfold Wx;refine Vi (Wg (VV _ _ _) aY ?_)
 (try dsimp only)
 rw[if_neg (by decide+kernel)];rw[show("bytes.__buffer__".dropRight ("__buffer__".length+1))="bytes"from by decide+kernel];exact XQ (VV _ _ _) (b:=true) (by rw[Wk];kernel_rfl) q
def vq(q:Q false s):Vy (Vt prog w) A (WI (.bytes b t)) Q E s:=by
 unfold WI Wx;refine Vi (Vi (Wg (VV _ _ _) g9 ?_));exact Vp (Vp q)
def ml(q:Q (some b) s):Vy (Vt prog w) A (WW id (.bytes b t) false) Q E s:=by
 unfold WW;refine Vi (Wg (VV _ _ _) aY ?_)
 (try dsimp only)
 refine Vi (vr ?_);rw[if_neg (by decide)];refine Vi (Wg (VV _ _ _) aY ?_)
 (try dsimp only)
 refine Vi (vq ?_);rw[if_neg (by decide)];exact Vi (Vi (Vp (Vp (Vp q))))
def qS(q:Q (some (b,none)) s):
  Vy (Vt prog w) A (Zj id (.bytes b t) 0) Q E s:=by
 unfold Zj;refine Vi (Z0 ?_);unfold Builtin.Bytes.takeBuffer?;refine Vi (Wg (VV _ _ _) aY ?_)
 (try dsimp only)
 refine Vi (vr ?_);rw[if_neg (by decide)];refine Vi (Wg (VV _ _ _) aY ?_)
 (try dsimp only)
 rw[show((0:Int)==Builtin.Bytes.fullReadOnly)=false from by decide+kernel];exact Vi (ml (Vp (Vp q)))
end
abbrev FR(b:List UInt8)(v:Vq):Prop:=∃t,v=.bytes b.toArray t
theorem x_(q:Q () s):∀(taken:List (Vq×Option Vq))(keep:List Vq),(∀p∈taken,p.2=none)->Vy (Vt prog w) A (Yx taken keep) Q E s
 |[],_,_=>Vp q
 |(x,u)::r,keep,hn=>by
  have hu:u=none:=hn _ (Vl ..);subst hu;unfold Yx;exact Vi (wpAny_letGo (x_ q r keep fun p hp=>hn p (Vj _ hp)))
def u6(bs:List (Array UInt8)):YR #[] bs=(bs.map XZ).flatten.toArray:=by
 unfold YR;have:∀(l:List (Array UInt8×Nat)) (acc:Array UInt8),l.foldl (fun out (x:Array UInt8×Nat)=>(if x.2>0 then out++#[]else out)++x.1) acc=acc++(l.map fun x=>x.1.toList).flatten.toArray:=by
  intro l;induction l with
  |nil=>intro acc;simp
  |cons x r ih=>
   intro acc;rw[XT,ih];have:(if x.2>0 then acc++#[]else acc)=acc:=by split<;>simp
   rw[this,VL,Xc];apply Array.toList_inj.mp;simp
 have h:=this bs.zipIdx #[];rw[show(fun(out:Array UInt8) (x:Array UInt8×Nat)=>match x with|(p,i)=>(if i>0 then out++#[]else out)++p)=(fun out (x:Array UInt8×Nat)=>(if x.2>0 then out++#[]else out)++x.1)from rfl];rw[h];have:(bs.zipIdx.map fun x=>x.1.toList)=bs.map XZ:=by
  have:=congrArg (List.map XZ) (List.zipIdx_map_fst 0 bs);rw[List.map_map]at this;exact this
 rw[this];simp
def z8{α:Type}{M:Model}{t u:Sem α}{Q:α->Vo->Prop}{E:d_}(e:t=u)(h:Vy M A u Q E s):Vy M A t Q E s:=e▸h
def SH{F:Vq->Sem Fin}(h1:∀x,vs=#[x]->Vy (Vt prog w) A (F x) Q E s)(h2:Vy (Vt prog w) A B Q E s):Vy (Vt prog w) A (match vs with|#[x]=>F x|_=>B) Q E s:=by
 obtain⟨_|⟨x,_|⟨y,r⟩⟩⟩:=vs;exact h2;exact h1 x rfl;exact h2
abbrev xf(parts:Array (Array UInt8)):Prop:=True
def wJ(l:Addr)(vs:Array Vq)(bs:List (List UInt8))(t0:Tok)(hb:aw FR bs vs.toList)(hz:bs.flatten.length<=sizeLine):
  Meets (VD.«bytes.join» ⟨[.bytes #[] t0,.ref l],[]⟩) (fun _ R s=>s.heap.IsList l vs/\(∀t k,R (.ok (.ret (.bytes bs.flatten.toArray t))) {s with toks:=k})):=
 .of_wp fun prog w A R s h=>by
  obtain⟨hp,g,d,tk,os⟩:=s;refine UW h fun o ho hc n hd hR=>?_;have seq:∀{A:VN} {Q:Option (Array Vq)->Vo->Prop} {E:d_},Q (some vs) ⟨hp,g,d,tk,os⟩->Vy (Vt prog w) A (seqItems? (.ref l)) Q E ⟨hp,g,d,tk,os⟩:=fun q=>by
   unfold seqItems?;refine Vi (XK ho ?_);rw[hd];exact Vp q
  wp_walk;rw[hd];refine Vp ?_;refine XA (fun _=>?_) (fun h=>absurd rfl h);have fin:∀(parts:Array (Array UInt8)) (taken:List (Vq×Option Vq)),parts.toList.map XZ=bs->(∀p∈taken,p.2=none)->xf parts->
   Vy (Vt prog w) A.in1 (do
    let sep←Xg (Value.bytes #[] t0)
    if Z9 (parts.foldl (·+·.size) (sep.size*(parts.size-1)))then unsupported s!"{Builtin.Bytes.Kind.bytes.name}.join:memory"
    let result←Builtin.Bytes.Kind.bytes.new (YR sep parts.toList)
    holding (result::taken.flatMap fun(y,u)=>y::u.toList) point
    Yx taken [result]
    ret result) (fun f s'=>∃v,f=Fin.done (Flow.ret v)/\R (.ok (.ret v)) s') (fun e s'=>R (.error e) s') ⟨hp,g,d,tk,os⟩:=by
   intro parts taken e1 e2 _;have hlen:∀(l:List (Array UInt8)) (n:Nat),l.foldl (fun x1 x2=>x1+x2.size) n=n+(l.map XZ).flatten.length:=by
    intro l;induction l with
    |nil=>intro n;simp
    |cons x r ih=>intro n;rw[XT,ih,VL,Xc,VH];simp only[Wu];exact Nat.add_assoc _ _ _
   refine Vi (Vi (Vp (Vp ?_)));refine XA (fun h=>absurd h ?_) (fun _=>?_)
   ·unfold Z9;rw[←Array.foldl_toList,hlen,e1];rw[show(#[]:Array UInt8).size*(parts.size-1)+bs.flatten.length=bs.flatten.length from by simp];rw[decide_eq_true_iff];exact W8.mpr hz
   rw[u6,e1];refine Vi ?_;show Vy _ _ (mkBytes _) _ _ _;refine wpAny_mkBytes ?_;refine Vi (V6 (wpAny_point ?_));exact Vi (x_ (Vp ⟨_,rfl,hR _ _⟩) _ _ e2)
  refine SH (fun x e=>?_) ?_
  ·subst e;cases hb with
   |cons hx hr=>
    cases hr;refine cX x hx fun t=>?_;refine Vi (wpAny_typeOf (VV _ _ _) ?_);refine XA (fun _=>?_) (fun h=>absurd rfl h);refine Vi (Yt ?_);have:=hR t tk;simp only[Xc,List.flatten_nil,VW]at this;exact Vp (i0 _ rfl this)
  refine Vi ?_;rw[Std.Legacy.Range.forIn_eq_forIn_range'];have hsz:([:vs.size]:Zx).size=vs.size:=by simp[Std.Legacy.Range.size]
  refine wpAny_forIn_list _ (fun rest b s'=>s'=⟨hp,g,d,tk,os⟩/\(∀p∈b.2,p.2=none/\p.1.onHeap=false)/\∃i,i+rest.length=vs.size/\rest=Zk i (vs.size-i)/\b.1.toList.map XZ=bs.take i) _ ?turn ?fin _ _ ?zz
  case turn=>
   rintro i rest ⟨parts,taken⟩ s' ⟨rfl,hn,j,hl,hr,hp⟩;have hlt:j<vs.size:=by rw[VT]at hl;exact Pr hl
   have hij:i=j/\rest=Zk (j+1) (vs.size-(j+1)):=by
    rw[show vs.size-j=(vs.size-(j+1))+1 from(Nat.succ_pred_eq_of_pos (Nat.sub_pos_of_lt hlt)).symm,List.range'_succ]at hr;exact⟨(List.cons.inj hr).1,(List.cons.inj hr).2⟩
   obtain⟨rfl,hrest⟩:=hij;have hlb:i<bs.length:=by rw[hb.length];simpa using hlt
   refine UX (hb.get (Vw hlb)) fun v hv t hvt=>?_;have hget:vs.getD i We=.bytes (bs[i]).toArray t:=by
    rw[←hvt,Array.getD_eq_getD_getElem?,←Yc,hv];rfl
   refine Vi (seq ?_);refine XA (fun h=>absurd h ?_) (fun _=>?_)
   ·have:(taken.any fun x=>x.fst.onHeap)=false:=by
     rw[ZQ];intro p hp';rw[(hn p hp').2];decide
    rw[this];decide
   refine Vi (V6 ?_);rw[hget];refine qS ?_;refine Vi (seq ?_);refine XA (fun h=>absurd h (by simp)) (fun _=>?_);refine Vp ⟨rfl,?_,i+1,?_,hrest,?_⟩
   ·intro p hp';rcases Vs.mp hp' with hp'|hp'
    ·exact hn p hp'
    ·cases V8.mp hp';exact⟨rfl,rfl⟩
   ·rw[VT]at hl;exact Pt hl
   ·show(parts.push _).toList.map _=_;rw[ZL,Yq,hp,List.take_add_one,Vw hlb];rfl
  case fin=>
   rintro⟨parts,taken⟩ s' ⟨rfl,hn,j,hl,hr,hp⟩;refine fin parts taken ?_ (fun p hp=>(hn p hp).1) trivial;rw[hp];refine WZ ?_;have this2:bs.length=vs.size:=by rw[hb.length];rfl
   have:j=vs.size:=by simpa using hl
   exact Nat.le_of_eq (this2.trans this.symm)
  case zz=>
   exact⟨rfl,(fun _ h=>absurd h WD),0,by rw[hsz];simp,by rw[hsz];rfl,rfl⟩
end
section
variable{cc:CC}{c:FC}{A:VN}{Γ:cM}{k:Nat}{loc loc1:aM}{sc:VZ}{H:AH}{ad:List Addr}{hd:Hid}{s:Vo}{h h':Heap}{fr:List (Addr×Obj)}
variable{D:ja}
def sm:Slot "bytes" "join" "bytes.join":=
 .of (owner:="bytes") (n:="join") (by rw[V7,VO];kernel_rfl) (by decide+kernel) (by decide+kernel) (by decide+kernel)
  (by first|exact .inl (by decide+kernel)|exact .inr (by decide+kernel)) (by rw[Wk];kernel_rfl)
def wx:XX Zv "bytes.join"=some VD.«bytes.join»:=XS (by kernel_rfl)
def yO(a b:Vq):YZ "bytes.join" ⟨[a,b],[]⟩:=by unfold YZ;kernel_rfl
def sk:Slot "bytes" "find" "bytes.find":=
 .of (owner:="bytes") (n:="find") (by rw[V7,VO];kernel_rfl) (by decide+kernel) (by decide+kernel) (by decide+kernel)
  (by first|exact .inl (by decide+kernel)|exact .inr (by decide+kernel)) (by rw[Wk];kernel_rfl)
def wu:XX Zv "bytes.find"=some VD.«bytes.find»:=XS (by kernel_rfl)
def yN(a b:Vq):YZ "bytes.find" ⟨[a,b],[]⟩:=by unfold YZ;kernel_rfl
def ze{b:List UInt8}(hx:∀y∈b,y≠x)(hi:Nat)(hh:hi<=b.length):X8 b.toArray #[x] 0 hi=none:=by
 unfold X8;rw[List.find?_eq_none];intro i hi';have:i<hi:=by
  refine o7 i (Wj.mp hi') fun j hj=>?_;have:=List.mem_range.mp hj;simp at this;exact So this
 intro e;have e:=eq_of_beq e;have e2:=congrArg (fun a=>a[0]?) e;simp only[Array.getElem?_extract]at e2;have hl:i<b.length:=by exact Im this hh
 have:=hx b[i] (Z7 hl);simp[hl]at e2;exact this (e2.2▸rfl)
def zT{id name:String}{Q:Vq×List Vq->Vo->Prop}{E:d_}(q:Q (a,[b]) s):Vy M A (selfAndSome id name 1 3 ⟨[a,b],[]⟩) Q E s:=by
 obtain⟨hp,g,d,tk,os⟩:=s;unfold selfAndSome;wp_walk;exact q
def zf{b:List UInt8}{xx:UInt8}(hx:∀y∈b,y≠xx)(w0:Option (Nat×Nat))(hw:∀lo hi,w0=some (lo,hi)->lo=0/\hi<=b.length){R:Xu->Vo->Prop}
  (h:R (.ok (.ret (.int (-1) s.toks))) {s with toks:=s.toks+1}):
  Vy (Vt prog w) A (match(b.toArray,#[xx],w0)with
  |(b,sub,w)=>
   match
    w.bind fun x=>
     match x with
     |(lo,hi)=>if false=true then Builtin.Bytes.rfind? b sub lo hi else X8 b sub lo hi with
   |some i=>retInt ↑i
   |none=>do
    rule (toString Builtin.Bytes.Kind.bytes.name++toString "."++toString "find"++toString ".not-found")
    if false=true then raiseErrorWords "ValueError" "subsection not found"else retInt (-1))
  (fun fin s'=>∃v,fin=Fin.done (Flow.ret v)/\R (Except.ok (Flow.ret v)) s') (fun e s'=>R (Except.error e) s') s:=by
 have hw':(w0.bind fun x=>match x with|(lo,hi)=>if false=true then Builtin.Bytes.rfind? b.toArray #[xx] lo hi else X8 b.toArray #[xx] lo hi)=none:=by
  induction w0 using Option.casesOn with
  |none=>rfl
  |some q=>
   obtain⟨lo,hi⟩:=q;refine TF lo (hw lo hi rfl) fun h2=>?_;exact ze hx _ h2
 dsimp only;rw[hw'];refine Vi (Yt ?_);refine XA (fun h=>absurd h (by decide)) (fun _=>?_);exact Vi (wpAny_mkInt (Vp (i0 _ rfl h)))
def wz(b:List UInt8)(xx:UInt8)(t u:Tok)(hx:∀y∈b,y≠xx):
  Meets (VD.«bytes.find» ⟨[.bytes b.toArray t,.bytes #[xx] u],[]⟩) (fun _ R s=>R (.ok (.ret (.int (-1) s.toks))) {s with toks:=s.toks+1}):=
 .of_wp fun prog w A R s h=>by
  unfold VD.«bytes.find» Builtin.Bytes.searchM Builtin.Bytes.searchArgs;refine Vi (Vi (zT ?_));refine Vi (Vp (Vi (Vp ?_)));refine Vi (ml ?_);refine Vi (Vp (Vi (Vi (Vp (Vp (Vp ?_))))));refine zf hx _ (fun lo hi hw=>?_) h
  split at hw
  ·injection hw
  ·have:=Prod.mk.inj (XE hw);obtain⟨h1,h2⟩:=this;simp at h1 h2;omega
end
end Mine
end
section
namespace Mine
open PySem PySem.W PyProof.Rows PySem.Calls
open Builtin Builtin.ObjectAttr
section
variable{cc:CC}{c:FC}{A:VN}{Γ:cM}{k:Nat}{loc loc1:aM}{sc:VZ}{H:AH}{ad:List Addr}{hd:Hid}{s:Vo}{h h':Heap}{fr:List (Addr×Obj)}{hn:Bool}{hd0:Option Addr}
variable{H1:AH}{ad1:List Addr}{hd1:Hid}{Er:d_}{QU:Unit->Vo->Prop}{Q:QE}{E:AH->Prop}{R:Xu->Vo->Prop}
noncomputable def qh(p:Nat->Pos)(n1:Nat):List Stmt:=
 [.Assign [.Attribute (.Name "self" (p 0)) "value" (p 1)] (.Name "value" (p 2)) (p 3),
  .Assign [.Attribute (.Name "self" (p 4)) "trace" (p 5)] (.List [] (p 6)) (p 7),
  .Assign [.Attribute (.Name "self" (p 8)) "is_in_handler" (p 9)] (.Constant (.bool false) n1 (p 10)) (p 11)]
inductive H8(cc:CC)(fI:Addr):Prop
 |mk (o fd p n1:_)(_:cc.G.get? fI=some o)(_:o.cls=.type "function")(_:o.data=.func fd)(_:fd.body=.stmts (qh p n1))(_:cc.G.CodeRec fd.code fd.qualname) (_:∀a b,V5 fd ⟨[a,b],[]⟩=pure [(Vg "self",a),(Vg "value",b)])
  (_:∀x∈fd.scope.names,x.2≠.cell)(_:fd.scope.names.lookup (Vg "self")=some .local)(_:fd.scope.names.lookup (Vg "value")=some .local)(_:fd.scope.isCoroutine=false)(_:fd.scope.isGenerator=false)(_:fd.scope.kind=.function):H8 cc fI
inductive H7(cc:CC)(mI:Option Vq):Prop
 |mk (N:Addr)(mN:Str->Option Vq)(nm q:Str)(bs:List Vq)(sn:List Str)(sub:List Vq)(ab:Bool)(col:Option Bool)(dd:Option Addr)(k0 k1 k2 k3 k5:Option Vq)
  (_:cc.G.get? cc.lua=some (excClassObj nm q cc.lua N bs [.type "Exception",.type "BaseException",.type "object"] true sn sub ab col dd k0 k1 k2 k3 k5 "Exception.__new__"))
  (_:cc.G.Ns N mN)(_:mN "__setattr__"=none)(_:mN "value"=none)(_:mN "trace"=none)(_:mN "is_in_handler"=none)(_:mN "__init__"=mI):H7 cc mI
inductive Kq(cc:CC):Prop
 |mk (fI:Addr)(_:H7 cc (some (.ref fI)))(_:H8 cc fI):Kq cc
structure kD(cc:CC):Prop where
 cls:Kq cc
 glob:cc.mg (Vg "LuaError")=some (.ref cc.lua)
 keep:Zp cc.K (.ref cc.lua)=true
def Dp:Xk (.type "Exception") "value"=pure none:=by rw[V7,VO];kernel_rfl
def Do:Xk (.type "Exception") "trace"=pure none:=by rw[V7,VO];kernel_rfl
def xe:Xk (.type "Exception") "is_in_handler"=pure none:=by rw[V7,VO];kernel_rfl
section
variable{prog:WU}{w:XC}{A:VN}{E:Vq->Vo->Prop}{h:Heap}{g:Array GenState}{d:Drawn}{t:Nat}{os:OsState}
variable{nm q:Str}{C N x:Addr}{bs bm:List Vq}{B newId sa owner:String}{sn:List Str}{sub:List Vq}{ab:Bool}{col:Option Bool}{dd:Option Addr}{k0 k1 k2 k3 k5:Option Vq}{mN:Str->Option Vq}{name:Str}{v:Vq}{o:Obj}{ns:List Str}
def Ua(o:Obj)(x:Addr)(name:Str)(ns:List Str)(h:Heap)(K:Heap->Tok->Prop):Prop:=
 ∀(h':Heap) (tk':Tok) (dx:Addr) (mA:Str->Option Vq),dx≠x->h'.get? x=some {o with dict:=some dx}->h'.Ns1 dx mA->Within mA (name::ns)->(∀b ob,b≠x->b≠dx->h.get? b=some ob->h'.get? b=some ob)->(o.dict=none->h.get? dx=none)->(∀d0,o.dict=some d0->dx=d0)->K h' tk'
def EF{Q:Unit->Vo->Prop}(SF:StoreFacts B bm sa owner)(hC:h.get? C=some (excClassObj nm q C N bs bm true sn sub ab col dd k0 k1 k2 k3 k5 newId))(hN:h.Ns N mN)(hns:mN "__setattr__"=none)(hna:mN name=none)
  (hB:Xk (.type B) name=pure none)(hx:h.get? x=some o)(hc:o.cls=.ref C)(hdat:o.data=.fields fvs)(hsz:ns.length<=50)
  (hd:o.dict=none\/∃dx mA,o.dict=some dx/\dx≠x/\h.Ns1 dx mA/\Within mA ns)
  (hq:Ua o x name ns h fun h' t=>Q () ⟨h',g,d,t,os⟩):
  Vy (Vt prog w) A (setAttr (.ref x) name v) Q E ⟨h,g,d,t,os⟩:=by
 have hpass:=SF.passes (.ref x);have hbind:=SF.slot.bind (.ref x);have fin:∀{t:Nat} {R:Xu->Vo->Prop} {tk:Tok},(Ua o x name ns h fun h' t=>R (.ok (.ret .none)) ⟨h',g,d,t,os⟩)->Yj (Vt prog w) A (.call (.builtin sa) ⟨[.ref x,.str name tk,v],[]⟩) R ⟨h,g,d,t,os⟩:=by
  intro t R tk hR;refine codeAny_call_builtin SF.slot.plain SF.entry (wpAny_check_sa SF hC hx hc ?_);unfold VD.«object.__setattr__»
  repeat(first|rw[refuse_eq]|(rw[refuseLoop_ref,hpass])|(with_reducible refine Y6 hx ?_;rw[hc])|with_reducible refine wpAny_mroOf_exc hC ?_|(with_reducible refine wpAny_typeLookup_exc hC hN SF.mro hB ?_;rw[hna])|wp_step)
  rcases hd with hdn|⟨dx,mA,hdx,hne,hns1,hw⟩
  ·rw[hdn,if_neg (by simp[typeHasDict])];rw[hdat];have hx1:(h.push {cls:=.type "dict",data:=.dict #[]}).get? x=some o:=Vx _ hx;have hxs:x≠h.objs.size:=WO (Wb hx);refine Vi (wpAny_alloc' ?_);refine Vi (wpAny_update' hx1 (Vp ?_));have hgd:((h.push {cls:=.type "dict",data:=.dict #[]}).update x fun o=>{cls:=o.cls,dict:=some h.objs.size,data:=o.data,slots:=o.slots}).get? h.objs.size=some {cls:=.type "dict",data:=.dict #[]}:=
    (Heap.get?_update_ne _ _ _ _ hxs.symm).trans (Heap.get?_push_at rfl rfl)
   have hnd:((h.push {cls:=.type "dict",data:=.dict #[]}).update x fun o=>{cls:=o.cls,dict:=some h.objs.size,data:=o.data,slots:=o.slots}).Ns h.objs.size (fun _=>none):=
    ⟨_,#[],_,hgd,rfl,fun e he=>absurd he (by simp),fun _=>rfl⟩
   show Vy _ _ (storeInDict h.objs.size (.str name tk) name v) _ _ _;unfold storeInDict newKeyGuard;refine Vi (Vp (Vi (wpAny_nsSet1 (Heap.Ns1.of_empty hnd) fun h' hn' hs=>?_)));refine TB (hn'.count (ZU name v Within.nil)) fun oD esD epD hoD hdD hcD=>?_;refine Vi (wpAny_lookBehind hoD (by rw[hdD];exact pastItsLine_dict (V4 hcD (by rw[VT,Za,Y7];exact R9))) ?_);wp_walk;refine hR h' _ h.objs.size _ hxs.symm ((hs.2 x hxs).trans (WL _ hx1 ?_)) hn' (fun y hy=>?_) (fun b ob hbx hbd hb=>?_) (fun _=>Wd (VB _)) (fun d0 e=>by rw[hdn]at e;injection e)
   ·obtain⟨oc,od,odt,osl⟩:=o;simp only at hdat;subst hdat;rfl
   ·have:=ZU name v Within.nil y hy;exact Vv.mpr (.inl (by simpa using this))
   ·exact(hs.2 b hbd).trans ((Heap.get?_update_ne _ _ _ _ hbx).trans (Vx _ hb))
  ·rw[hdx];refine Vp ?_;show Vy _ _ (storeInDict dx (.str name tk) name v) _ _ _;unfold storeInDict newKeyGuard;refine Vi (Vp (Vi (wpAny_nsSet1 hns1 fun h' hn' hs=>?_)));refine TB (hn'.count (ZU name v hw)) fun oD esD epD hoD hdD hcD=>?_;refine Vi (wpAny_lookBehind hoD (by rw[hdD];exact pastItsLine_dict (V4 hcD (by rw[VT,Y7];exact R_ hsz))) ?_);wp_walk;refine hR h' _ dx _ hne ?_ hn' (ZU name v hw) (fun b ob _ hbd hb=>(hs.2 b hbd).trans hb) (fun e=>by rw[hdx]at e;injection e) (fun d0 e=>by rw[hdx]at e;cases e;rfl);rw[hs.2 x hne.symm,hx];obtain⟨oc,od,odt,osl⟩:=o;simp only at hdx;subst hdx;rfl
 unfold setAttr callSpecial? specialOf
 repeat(any_goals (first|assumption|(with_reducible refine Y6 hx ?_;rw[hc])|(with_reducible refine wpAny_typeLookup_exc hC hN SF.mro SF.slot.lookup ?_;rw[hns])|wp_step))
 refine fin fun h' tk' dx mA a b c' d' e f g'=>?_
 repeat(any_goals (first|assumption|wp_step))
 exact hq h' tk' dx mA a b c' d' e f g'
end
end
end Mine
end
section
namespace Mine
open PySem PySem.W PyProof.Rows PySem.Calls
section
variable{cc:CC}{c:FC}{A:VN}{Γ:cM}{k:Nat}{loc loc1:aM}{sc:VZ}{H:AH}{ad:List Addr}{hd:Hid}{s:Vo}{h h':Heap}{fr:List (Addr×Obj)}{hn:Bool}{hd0:Option Addr}
variable{H1:AH}{ad1:List Addr}{hd1:Hid}{Er:d_}{QU:Unit->Vo->Prop}{Q:QE}{E:AH->Prop}{R:Xu->Vo->Prop}
structure Ia(h0:Heap)(x C:Addr)(vs:Array Vq)(ns:List Str)(h:Heap):Prop where
 obj:∃o,h.get? x=some o/\o.cls=.ref C/\o.data=.fields vs/\(o.dict=none\/∃dx mA,o.dict=some dx/\dx≠x/\h.Ns1 dx mA/\Within mA ns/\h0.get? dx=none)
 keep:∀b o,b≠x->h0.get? b=some o->h.get? b=some o
def J_{E:Vq->Vo->Prop}{sub:List Vq}{col:Option Bool}{dd:Option Addr}{k0 k1 k2 k3 k5:Option Vq}{mN:Str->Option Vq}{name:Str}{v:Vq}
  (X:Ia h0 x C vs ns s.heap)(hxC:C≠x)(hxN:N≠x)(hC:h0.get? C=some (excClassObj nm q C N bs [.type "Exception",.type "BaseException",.type "object"] true sn sub ab col dd k0 k1 k2 k3 k5 "Exception.__new__"))(hN:h0.Ns N mN)
  (hns:mN "__setattr__"=none)(hna:mN name=none)(hB:Xk (.type "Exception") name=pure none)(hsz:ns.length<=50)
  (hq:∀h' tk',Ia h0 x C vs (name::ns) h'->QU () {s with heap:=h',toks:=tk'}):Vy (Vt prog w) A (setAttr (.ref x) name v) QU E s:=by
 obtain⟨hp,g,d,t,os⟩:=s;obtain⟨⟨o,hx,hc,hdat,hd⟩,keep⟩:=X;refine o9 hN fun oN esN epN n1 n2=>?_;refine EF F.store_Exception (keep _ _ hxC hC) (Qk oN esN epN (keep _ _ hxN n1) n2) hns hna hB hx hc hdat hsz (hd.imp id fun⟨dx,mA,a,b,c',d',_⟩=>(i6 dx mA a b c' d')) fun h' tk' dx mA a b c' d' e f g'=>hq h' tk' ⟨(Ql _ b hc hdat (.inr ⟨dx,mA,rfl,a,c',d',?_⟩)),fun y oy hy e0=>?_⟩
 ·rcases hd with hd|⟨d0,_,h1,h2,_,_,h5⟩
  ·induction q:h0.get? dx using Option.casesOn with
   |none=>rfl
   |some od=>have:=keep _ _ a q;rw[f hd]at this;injection this
  ·rw[g' d0 h1];exact h5
 ·refine e y oy hy (fun z=>?_) (keep _ _ hy e0);rcases hd with hd|⟨d0,_,h1,h2,_,_,h5⟩
  ·have:=keep _ _ hy e0;rw[z,f hd]at this;injection this
  ·rw[g' d0 h1]at z;rw[z,h5]at e0;injection e0
def EO(LO:kD cc)(O:aO cc){E:Vq->Vo->Prop}{QV:Vq->Vo->Prop}(hk:∀b o,cc.G.get? b=some o->s.heap.get? b=some o)(hx:s.heap.get? x=some ox)(hxG:cc.G.get? x=none)
  (hc:ox.cls=.ref cc.lua)(hdat:ox.data=.fields vs)(hdn:ox.dict=none)(hroom:A.depth<WC){fI:Addr}(hfI:H7 cc mI)(hf:H8 cc fI)
  (hq:∀h' tk',(∀b o,b≠x->s.heap.get? b=some o->h'.get? b=some o)->(∃o,h'.get? x=some o/\o.cls=.ref cc.lua/\o.data=.fields vs)->QV .none {s with heap:=h',toks:=tk'}):
  Vy (Vt cc.prog cc.w) A (W6 (.ref fI) [.ref x,bv]) QV E s:=by
 obtain⟨N,mN,nm,q,bs,sn,sub,ab,col,dd,k0,k1,k2,k3,k5,hC,hN,m1,m2,m3,m4,m5⟩:=hfI;obtain⟨o,fd,p,n1,f1,f2,f3,f4,f5,f6,f7,f8,f9,f10,f11,f12⟩:=hf;have gne:∀{b:Addr} {ob:Obj},cc.G.get? b=some ob->b≠x:=fun e z=>by rw[z,hxG]at e;injection e
 have hNx:N≠x:=by refine o9 hN fun _ _ _ e _=>?_;exact gne e
 refine wpAny_call (codeAny_call_def (fd:=fd) (body:=qh p n1) hroom (hk _ _ f1) f3 (O.rd.nolimit.keeps hk) (f5.keeps hk) f4 (.of_eq (f6 _ _)) f7 (fun y hy=>?_) (fun h₀ hns hk0=>?_) f10 f11 f12)
 ·rcases Vv.mp hy with rfl|hy
  ·exact f8
  ·rw[V8.mp hy];exact f9
 have hk1:∀b ob,cc.G.get? b=some ob->h₀.get? b=some ob:=fun b ob e=>hk0 _ _ (hk _ _ e);have hLx:(Wi fd s.heap.objs.size fI).locals≠x:=Nat.ne_of_gt (Wb hx);have hC0:=hk1 _ _ hC;have hN0:h₀.Ns N mN:=hN.keeps hk1;have X0:Ia h₀ x cc.lua vs [] h₀:=⟨(Ql ox (hk0 _ _ hx) hc hdat (.inl hdn)),fun _ _ _ e=>e⟩
 have nsOf:∀{h1:Heap} {ns:List Str},Ia h₀ x cc.lua vs ns h1->h1.Ns (Wi fd s.heap.objs.size fI).locals (fun y=>[(Vg "self",Wo x),(Vg "value",bv)].reverse.lookup y):=fun X=>by
  refine o9 hns fun oL es ep e1 e2=>?_;exact Qk oL es ep (X.keep _ _ hLx e1) e2
 have ldself:∀{s1:Vo} {ns:List Str} {pp:Pos} {Qx:Vq->Vo->Prop} {Ex:Vq->Vo->Prop} {A':VN},Ia h₀ x cc.lua vs ns s1.heap->Qx (.ref x) s1->Vy (Vt cc.prog cc.w) A' (eval (.Name (Vg "self") pp) (Wi fd s.heap.objs.size fI)) Qx Ex s1:=
  fun X hQ=>wpAny_Name (YG f12 f8 (nsOf X) rfl hQ) (by decide)
 have ldval:∀{s1:Vo} {ns:List Str} {pp:Pos} {Qx:Vq->Vo->Prop} {Ex:Vq->Vo->Prop} {A':VN},Ia h₀ x cc.lua vs ns s1.heap->Qx bv s1->Vy (Vt cc.prog cc.w) A' (eval (.Name (Vg "value") pp) (Wi fd s.heap.objs.size fI)) Qx Ex s1:=
  fun X hQ=>wpAny_Name (YG f12 f9 (nsOf X) rfl hQ) (by decide)
 unfold qh;refine Zc (Xm (ldval X0 (ldself X0 (J_ X0 (gne hC).symm.symm hNx hC0 hN0 m1 m2 Dp (by simp) fun h1 t1 X1=>?_))) rfl);refine Zc (Xm (List_ (Vp (Wl ?_ (by show 0<=_;exact Wy _)))) rfl);have X2:Ia h₀ x cc.lua vs ["value"] (h1.push {cls:=.type "list",data:=.seq [].toArray}):=by
  obtain⟨⟨o1,a1,a2,a3,a4⟩,a5⟩:=X1;refine⟨(Ql o1 (Vx _ a1) a2 a3 (a4.imp id fun⟨dx,mA,b1,b2,b3,b4,b5⟩=>⟨dx,mA,b1,b2,b3.at fun _ e=>Vx _ e,b4,b5⟩)),fun b ob hb e=>Vx _ (a5 b ob hb e)⟩
 refine ldself X2 (J_ X2 (gne hC).symm.symm hNx hC0 hN0 m1 m3 Do (by simp) fun h3 t3 X3=>?_);refine Zc (Xm (wpAny_Constant_bool (ldself X3 (J_ X3 (gne hC).symm.symm hNx hC0 hN0 m1 m4 xe (by simp) fun h4 t4 X4=>?_))) rfl);refine Xe (hq _ _ (fun b ob hb e=>X4.keep b ob hb (hk0 _ _ e)) ?_);refine UO X4.obj fun o4 a1 a2 a3 _=>?_;exact i8 o4 a1 a2 a3
def FS.freshA(F:FS cc c loc H ad hd s)(he:s.heap.get? e=none):cD cc c.fr (some c.env.locals) hd ad e:=
 ⟨F.hr.freshG he,F.hr.fresh he,fun z=>by
  refine QM F.ns fun m _ _ _ n1 _ _=>?_;(injection z with z;subst z);rw[he]at n1;cases n1⟩
def wX{sub:List Vq}{x:Sem Vq}{Qf:Flow->Vo->Prop}{Er:d_}
  (hbase:bm.contains (.type "BaseException")=true)
  (hx:Vy M A x (fun v s₁=>∃e oe vs,v=.ref e/\s₁.heap.get? C=some (excClassObj nm q C N bs bm hdct sn sub ab col dd k0 k1 k2 k3 k5 newId)/\s₁.heap.get? e=some oe/\oe.cls=.ref C/\oe.data=.fields vs/\vs[1]?=some .none/\
   Vy M A (raiseNew (.ref e):Sem Flow) Qf Er s₁) Er s):Vy M A (raiseStmt env (some x) none) Qf Er s:=by
 have hcB:(Wo C::bm).contains (.type "BaseException")=true:=by rw[List.contains_cons,hbase,Bool.or_true]
 unfold raiseStmt;refine Vi (W3 hx (fun v s₁ h₁=>?_) fun _ _ x=>x);refine UP v h₁ fun e oe vs hC he hc hdat h1 hR=>?_;obtain⟨hp,g,d,tk,os⟩:=s₁;obtain⟨oc,od,odt,osl⟩:=oe;simp only at hc hdat;subst hc hdat
 repeat(first|with_reducible refine Y6 he ?_|with_reducible refine Y6 hC ?_|(with_reducible refine wpAny_isSubtype_exc hC ?_;rw[hcB])|(with_reducible refine WA he rfl h1 ?_)|wp_step)
 exact hR
def q_(x:Str)(np cp:Pos)(as:List Expr)(env:Env):eval (.Call (.Name x np) as [] cp) env=(do Xs cp (←eval (.Name x np) env) [] (Wh cp (V1 as env)) []):=rfl
def w7(O:aO cc)(LO:kD cc)(eo:ay c)(ao:bx c A k)(hl:c.env.scope.names.lookup (Vg "LuaError")=some .globalImplicit):
  bc cc c A (exec (.Raise (some (.Call (.Name (Vg "LuaError") np) [.Constant (.bytes b) kk kp] [] cp)) none pos) c.env) (fun loc H _ E=>4<=k/\E loc H):=by
 intro loc H ad hd s Q E Qr Er F d po q e;refine kY d fun h4 d=>?_;obtain⟨fI,hD,hf⟩:=LO.cls;obtain⟨N,mN,nm,qn,bs,sn,sub,ab,col,dd,k0,k1,k2,k3,k5,hC,hN,m1,m2,m3,m4,m5⟩:=id hD;have room:=ao.room;rw[arm_exec_Raise];refine Vi (VY ?_);show Vy _ A (raiseStmt c.env (some (do let v←eval (.Call (.Name (Vg "LuaError") np) [.Constant (.bytes b) kk kp] [] cp) c.env;Yh pos;pure v)) none) Qr Er s;refine wX (C:=cc.lua) (nm:=nm) (q:=qn) (N:=N) (bs:=bs) (bm:=[.type "Exception",.type "BaseException",.type "object"]) (hdct:=true) (sn:=sn) (sub:=sub) (ab:=ab) (col:=col) (dd:=dd) (k0:=k0) (k1:=k1) (k2:=k2) (k3:=k3) (k5:=k5) (newId:="Exception.__new__") (by decide+kernel) ?_;rw[q_];refine Vi (Vi (WX eo.kind hl (XI (F.glob O eo).1 LO.glob ?_) (by decide)));refine bD (P:=cc.K.In) rfl (keeps_K LO.keep) ?_;have one:ji cc c A loc (Wq (Wh cp (V1 [.Constant (.bytes b) kk kp] c.env))) (fun H Q _=>Q [.bytes b] H):=by
  have hb:aC cc c A loc (eval (.Constant (.bytes b) kk kp) c.env) (fun H Q _=>Q (.bytes b) H):=fun H ad hd s Q E Qr Er F d q _=>Constant_bytes (q (.bytes b) _ _ _ _ _ (.refl _ _ _) F.toks ⟨_,rfl⟩ d);exact kz rfl hb mZ
 refine one H ad hd s (fun vs H1=>vs=[.bytes b]/\H1=H) (fun _=>False) _ _ F ⟨rfl,rfl⟩ (fun vs H1 ad1 hd1 s1 xs T1 F1 r1 d1=>⟨F1.K O,?_⟩) (fun _ _ _ _ _ _ _ _ z=>z.elim);obtain⟨rfl,rfl⟩:=d1;obtain⟨bv,rfl⟩:∃bv,xs=[bv]:=by
  cases r1 with
  |cons a r=>cases r;exact⟨_,rfl⟩
 obtain⟨hp,g,dr,tk,os⟩:=s1;have kG:=F1.hr.keep;obtain⟨o0,fd,p,n1,f1,f2,f3⟩:=id hf;show Vy _ A (W6 (.ref cc.lua) [bv]) _ Er _;refine wpAny_call_exc_init PySem.F.excBase_Exception (kG _ _ hC) (hN.keeps kG) m5 (kG _ _ f1) f2 (fun h' ea hm=>?_) (by show 1<=sizeLine;rw[Y7];decide);refine eD hm.there fun t ht ht1 ht2=>?_;have kG':∀b o,cc.G.get? b=some o->h'.get? b=some o:=fun b o e=>hm.keeps _ _ (kG _ _ e);have hnew:hp.get? ea=none:=hm.new;have hGx:cc.G.get? ea=none:=F1.hr.freshG hnew;refine EO LO O (s:=⟨h',g,dr,tk,os⟩) kG' ht hGx rfl rfl rfl (by show A.depth+1<WC;exact Sa room h4) hD hf fun h2 tk2 k2' hx2=>⟨rfl,Vi (VY (Vp ?_))⟩
 refine eD hx2 fun oe e1 e2 e3=>?_;have keep2:∀b o,hp.get? b=some o->h2.get? b=some o:=fun b o eb=>k2' b o (fun z=>by rw[z,hnew]at eb;injection eb) (hm.keeps _ _ eb);have F2:=F1.grow (h':=h2) (k:=tk2) keep2;refine⟨ea,oe,_,rfl,F2.hr.keep _ _ hC,e1,e2,e3,rfl,?_⟩;have C1:=F1.chain ao;refine oM (F2.chain ao) (C1.live hnew) e1 e3 (by show 2<6;decide) fun h3 oe3 vs3 g1 g2 _ g4 g5 g6 g7 g8=>?_;have fx:=F1.freshA hnew;have F3:=F2.marked (h':=h3) (S:=[]) (x:=ea) (y:=ea) (tk:=tk2) (fun _ z=>nomatch z) fx fx (fun b o _ hb _ eb=>g8 b o hb eb) (fun b o hb _ eb=>⟨o.slots,g8 b o hb eb⟩);refine e loc _ _ _ _ ea T1 F3 ⟨oe3,vs3,g1,g2.trans e2,g4,by rw[g5];exact VB 6,fun hh=>?_,fx,.inl ?_⟩ d
 ·have:A.handled=none:=by rw[ao.hnd,ao.hn hh];rfl
  rw[g7 this];rfl
 ·rw[g6 1 (by decide)];rfl
end
section
variable{cc:CC}{c:FC}{A:VN}{Γ:cM}{k:Nat}{loc loc1:aM}{sc:VZ}{H:AH}{ad:List Addr}{hd:Hid}{s:Vo}{h h':Heap}{fr:List (Addr×Obj)}{hn:Bool}{hd0:Option Addr}
variable{H1:AH}{ad1:List Addr}{hd1:Hid}{Er:d_}{QU:Unit->Vo->Prop}{Q:QE}{E:AH->Prop}{R:Xu->Vo->Prop}{DSa DSb:sx}
def FS.rehd(F:FS cc c loc H ad hd s)(hx:jg hd0 ad H):FS cc {c with hn:=hn,hd0:=hd0} loc H ad hd s:=⟨F.ns,F.hr,F.own,F.above,F.cells,hx,F.oth⟩
def bx.mark(ao:bx c A k)(hh:hn=false):bx {c with hn:=hn,hd0:=some ea} (A.mark (some (.ref ea))) k:=
 ⟨ao.room,ao.units,ao.frames,rfl,fun z=>by rw[hh]at z;cases z⟩
def C9(O:aO cc)(LO:kD cc)(eo:ay c)(ao:bx c A k)(tp:aR c A)(hl:c.env.scope.names.lookup (Vg "LuaError")=some .globalImplicit)
  (h1:bc cc c A (Wt b c.env) DSa) (h2:∀ea,bc cc {c with hn:=false,hd0:=some ea} (A.mark (some (.ref ea))) (Wt (h0::hb) c.env) DSb):
  bc cc c A (exec (.Try b [.ExceptHandler (some (.Name (Vg "LuaError") np)) none (h0::hb) hp] [] [] pos) c.env)
   (fun loc H Q E=>c.hn=true/\DSa loc H Q (fun loc1 H1=>DSb loc1 (H1++[.exc]) Q (fun _ _=>False))):=by
 intro loc H ad hd s Q E Qr Er F d po q e;refine kY d fun hn d=>?_;obtain⟨fI,⟨N,mN,nm,qn,bs,sn,sub,ab,col,dd,k0,k1,k2,k3,k5,hC,hN⟩⟩:=LO.cls;refine wpAny_Try_except (h1 _ _ _ _ _ _ _ _ (fun e s₁=>Vy (Vt cc.prog cc.w) A (Xr e c.env) (fun _ s₂=>Vy (Vt cc.prog cc.w) A (XR e none)
   (fun _ s₃=>Vy (Vt cc.prog cc.w) A (ZH e c.env [.ExceptHandler (some (.Name (Vg "LuaError") np)) none (h0::hb) hp]) Qr Er s₃) Er s₂) Er s₁) F d Zs (fun fl loc' H' ad' hd' s' f T' F' r' d'=>?_) (fun loc' H' ad' hd' s' ea T' F' fl d'=>?_))
 ·induction fl using yK.casesOn with
  |next=>subst r';exact Xe (KF.next q T' F' d')
  |brk=>subst r';exact KF.brk q T' F' d'
  |cont=>subst r';exact KF.cont q T' F' d'
  |ret v=>refine wV f r' fun x r=>?_;exact KF.ret q T' F' r d'
 ·refine kg F' ao tp fl fun h2' F2 fl2=>?_;refine Ke fl2 fun oe vs he hc hdat hz hctx fe T oT ts t1 t2 t3 t4 t5 fT=>?_;have F3:FS cc c loc' (H'++[.exc]) (ad'++[ea]) hd' {s' with heap:=h2'}:=by
   refine o1 F2.fr fun m hF L=>?_;exact F2.allocN (tk:=s'.toks) hF L (fun _ _ _ z=>z) fe.t fe.g (fun z=>fe.o (by rw[z])) he (Ql vs hc hdat hz (hctx hn))
  have T3:Tr ad H hd (ad'++[ea]) (H'++[.exc]) hd':=T'.trans (Tr.snoc ad' H' hd' ea .exc);have hlen:ad'.length=H'.length:=F2.hr.len;have hx:jg (some ea) (ad'++[ea]) (H'++[.exc]):=fun a0 z=>by
   (injection z with z;subst z);exact i0 ad'.length (W1 ..) (by rw[hlen];exact W1 ..)
  have F4:=F3.rehd (hn:=false) (hd0:=some ea) hx;refine wpAny_handleBy_cons ?_ (by intro z;injection z);refine ZA ?_;refine WX eo.kind hl (XI (F3.glob O eo).1 LO.glob ?_) (by decide);refine Y4 (F3.hr.keep _ _ hC) he hc (by decide+kernel) ?_;show Yj _ _ _ _ _;refine codeAny_handlers_suite ?_;unfold XR;refine Vi (WA he hdat t1 ?_);rw[if_pos (show(Wo T !=We)=true from by simp)];refine Xq t3 t4 t5 ?_;have fT':cD cc c.fr (some c.env.locals) hd' (ad'++[ea]) T:=⟨fT.g,fun z=>by
   rcases mem_snoc z with z|z
   ·exact t2 z
   ·exact fT.t z,fT.o⟩
  have other:∀b,b≠T->(h2'.update T (Wc (·.setIfInBounds 3 We))).get? b=h2'.get? b:=fun b hb=>WG _ _ (XD hb);have F5:=F4.marked (h':=h2'.update T (Wc (·.setIfInBounds 3 We))) (S:=[]) (x:=T) (y:=T) (tk:=s'.toks) (fun _ z=>nomatch z) fT' fT' (fun b o _ hb _ eb=>(other b hb).trans eb) (fun b o hb _ eb=>(i4 o.slots ((other b hb).trans eb)));refine W3 (h2 ea _ _ _ _ _ _ _ (fun f s₂=>Qr f s₂) (fun _ _=>False) F5 d' ZK (fun fl loc6 H6 ad6 hd6 s6 f T6 F6 r6 d6=>?_) (fun _ _ _ _ _ _ _ _ _ z=>z.elim)) (fun _ _ z=>z) (fun _ _ z=>z.elim);have F7:FS cc c loc6 H6 ad6 hd6 s6:=⟨F6.ns,F6.hr,F6.own,F6.above,F6.cells,fun a0 z=>(by rw[ao.hn hn]at z;injection z),F6.oth⟩
  exact q _ _ _ _ _ _ _ (T3.trans T6) F7 r6 d6
end
section
variable{cc:CC}{c:FC}{A:VN}{Γ:cM}{k:Nat}{loc loc1:aM}{sc:VZ}{H:AH}{ad:List Addr}{hd:Hid}{s:Vo}{h h':Heap}{fr:List (Addr×Obj)}
def Ac(P:Addr)(ps:Array Vq)(pos:Pos)(qual:Str)(h h':Heap)(c':Addr):Option Addr->Prop
 |some a=>c'=a/\∀b o,h.get? b=some o->h'.get? b=some o
 |none=>Wa P h h'/\h.get? c'=none/\h'.get? P=some (Wz (ps++#[rawInt pos.line,rawInt pos.col,.ref c']))/\
   ∃o P',h'.get? c'=some o/\k9 o qual/\lW o c' P'/\h.get? P'=none/\h'.get? P'=some (Wz #[])
noncomputable def Di(name qual:Str)(params:Arguments)(body:List Stmt)(scope:VZ)(clos:List (Str×Addr))(ctv:Vq)(bi:Addr)(cv:Vq):Sem Vq:=
 builtinsFor mainGlobals bi>>=fun b=>nsGet mainGlobals "__name__">>=fun n=>(match docOf body with|some s=>mkText s|none=>pure We)>>=fun doc=>
  newObj (.type "function") (.func {name:=name,qualname:=qual,params:=params,body:=.stmts body,scope:=scope,globals:=mainGlobals,closure:=clos,closureTuple:=ctv,code:=cv,builtins:=b,defaults:=.none,kwdefaults:=.none,annotations:=none,pyModule:=n.getD .none,doc:=doc})
def zv

  (hcl:XM scope env=pure clos)(hge0:env.globals=mainGlobals)(hg:s.heap.Ns mainGlobals mg)(hcode:env.code=.ref cE)(C:CodeHd s.heap cE P)(hP:s.heap.get? P=some (Wz ps))(ht:TriplesOk ps.toList)
  (hf:codeAmong pos ps.toList=code?.map Wo)(hgP:mainGlobals≠P)(hb:s.heap.BuiltinsAt mg P)
  (h:∀(c':Addr)(ctv doc:Vq)(h':Heap)(tk:Tok),s.heap.objs.size<=h'.objs.size->
   Ac P ps pos qual s.heap h' c' code?->
   Q (.ref h'.objs.size) {s with heap:=h'.push {cls:=.type "function",data:=.func (fnX name qual params body scope clos .none .none doc ((mg "__name__").getD .none) none (.ref c') ctv)},toks:=tk}):
  Vy M A (makeFunction name qual params (.stmts body) scope env [] [] [] pos firstLine) Q E s:=by
 rw[makeFunction_eq];simp only[W7,List.filterMap_nil,Z5,if_true,pure_bind];refine UR hb fun bm ob hbm hne0 _ hneP hbo hcls hdict hdata=>?_;unfold makeTail;rw[hcl,hge0];refine Vi (Vp ?_);have step:∀(ctv:Vq) (h1:Heap),(∀b o,s.heap.get? b=some o->h1.get? b=some o)->s.heap.objs.size<=h1.objs.size->
   Vy M A (functionCode env pos firstLine name qual params scope (.stmts body)>>=fun cv=>Di name qual params body scope clos ctv env.builtins cv) Q E ({s with heap:=h1}:Vo):=by
  intro ctv h1 k1 z1;have fin:∀(c':Addr) (h2:Heap) (tk:Tok),s.heap.objs.size<=h2.objs.size->h2.Ns mainGlobals mg->h2.get? bm=some ob->Ac P ps pos qual s.heap h2 c' code?->
    Vy M A (Di name qual params body scope clos ctv env.builtins (.ref c')) Q E ({s with heap:=h2,toks:=tk}:Vo):=by
   intro c' h2 tk z2 g2 b2 m2;unfold Di;refine Vi (wpAny_builtinsFor g2 hbm hne0 b2 hcls hdict hdata ?_);refine Vi (wpAny_nsGet g2 ?_);induction hdoc:docOf body using Option.casesOn with
   |none=>exact Vi (Vp (Wl (h c' ctv .none h2 tk z2 m2) (by size_fits)))
   |some t=>exact Vi (wpAny_mkText (Wl (h c' ctv _ h2 _ z2 m2) (by size_fits)))
  induction code? using Option.casesOn with
  |some a=>
   refine Vi (wpAny_functionCode_hit hcode ((C.keeps k1).code (k1 _ _ hP) ht) hf ?_);exact fin a h1 s.toks z1 (hg.keeps k1) (k1 _ _ hbo) ⟨rfl,k1⟩
  |none=>
   refine Vi (wpAny_functionCodeX hcode ((C.keeps k1).code (k1 _ _ hP) ht) ((C.keeps k1).tab (k1 _ _ hP)) hf fun c' h2 tk hx hge hlt _ hrec htb hown=>?_);refine oZ fun zq=>?_;refine eD hown fun P' hP'z hcd htc=>?_;have hx':Wa P s.heap h2:=fun b o hb' e=>hx b o hb' (k1 _ _ e);refine TC hrec fun c₂ oc vs t e2 hoc hdc hv=>?_;(injection e2 with e2;subst e2);have hh:CodeHd h2 c' P':=CodeHd.of hcd htc;refine US hh fun o vs' file tf flags tg inF text tt e1 r=>?_;refine zq ?_;rw[hoc]at e1;(injection e1 with e1;subst e1);refine fin c' h2 tk (V4 (V4 z1 hge) (WR hlt)) ((hg.keeps k1).extBut hx hgP) (hx' _ _ hneP hbo) ⟨hx',Wd (V4 z1 hge),htb.2,oc,P',hoc,(i2 vs t hdc hv),
    ⟨vs',file,tf,flags,tg,inF,text,tt,r⟩,Wd (V4 z1 hP'z),htc.2⟩
 induction clos using Vr with
 |nil=>
  simp only[Z5,if_true];refine Vi (Vp ?_);exact step .none s.heap (fun _ _ e=>e) (VB _)
 |cons q r=>
  simp only[List.isEmpty_cons,V0,if_false];refine Vi (wpAny_newTextTuple ?_);exact step _ _ (fun b o e=>Vx _ e) (by rw[WS];exact lg)
structure ri(cc:CC):Prop where
 bmain:∃bm ob,cc.mg "__builtins__"=some (.ref bm)/\bm≠W4/\cc.G.get? bm=some ob/\ob.cls=.type "module"/\ob.dict=some W4/\ob.data=.plain
structure pB(cc:CC)(c:FC)(ct:List Nat)(d:Nat):Prop where
 d0:(cc.cdat d).params.defaults=[]
 k0:(cc.cdat d).params.kw_defaults=[]
 ann:annTrees (cc.cdat d).params none c.env=[]
 qual:qualnameIn c.env (cc.cdat d).name (cc.cdat d).name=(cc.cdat d).qual
 free:aw (fun j x=>c.cn[j]?=some x/\(c.env.scope.names.lookup x=some .cell\/c.env.scope.names.lookup x=some .free)) ct (cc.cdat d).free
 clos:∀ads,aw (fun x a=>c.env.cells.lookup x=some a) (cc.cdat d).free ads->XM (cc.cdat d).scope c.env=pure ((cc.cdat d).free.zip ads)
def FS.ads(F:FS cc c loc H ad hd s)(h:aw (fun j x=>c.cn[j]?=some x/\(c.env.scope.names.lookup x=some .cell\/c.env.scope.names.lookup x=some .free)) ct free):
  ∃ads,aw (fun x a=>c.env.cells.lookup x=some a) free ads/\aw (fun i a=>ad[i]?=some a) (ct.map fun j=>c.cl.getD j 0) ads:=by
 induction h with
 |nil=>exact(i0 ([]) .nil .nil)
 | @cons j x _ _ q r ih=>
  obtain⟨e,hx⟩:=q;refine o1 ih fun ads h1 h2=>?_;refine o6 (F.cells j _ e hx) fun a i e1 e2 e3=>?_;refine i0 (a::ads) (.cons e1 h1) (.cons ?_ h2);show ad[c.cl.getD j 0]?=some a;rw[VG,e2];exact e3
def FS.codeNew(F:FS cc c loc H ad hd s)(t:pF cc hd cE P d)(hn:hd.code d=none)(x:Wa P s.heap h')
  (hP:h'.get? P=some (Wz (fG (cc.cdat d).pos (some a))))(ha:s.heap.get? a=none)(ea:h'.get? a=some o)(hq:k9 o (cc.cdat d).qual)(hco:lW o a P')(hP':s.heap.get? P'=none)
  (eP':h'.get? P'=some (Wz #[])):∃hd',hd.le hd'/\hd'.code d=some a/\FS cc c loc H ad hd' {s with heap:=h',toks:=tk}:=by
 refine oZ fun zq=>?_;refine QK (F.hr.addHid t hn x hP ha ea hq hco hP' eP') fun R le hc hm=>?_;have mP:P∈tot cc c.fr hd ad:=Vh _ (Vh _ (Vz (f:=Wr) t.mem));refine o1 F.ns fun m n L=>?_;refine zq ?_;refine⟨_,le,hc,(i0 m (n.extBut x fun q=>F.own (q▸mP)) L),R,fun z=>?_,F.above,F.cells,F.hdl,⟨F.oth.gens,F.oth.drawn,F.oth.os⟩⟩;refine o9 n fun oo _ _ ho _=>?_;rcases hm _ z with z|z|z
 ·exact F.own z
 ·rw[z,ha]at ho;injection ho
 ·rw[z,hP']at ho;injection ho
def B8(O:aO cc)(DO:ri cc)(eo:ay c)(F:FS cc c loc H ad hd s)(DS:pB cc c ct d)(hcode:c.env.code=.ref cE)(C:CodeHd s.heap cE P)
  (t:pF cc hd cE P d)(hx:cc.T.nm[i]?=some (cc.cdat d).name)(hl:c.env.scope.names.lookup (cc.cdat d).name=some .local)
  (q:∀ad' hd' s',Tr ad H hd ad' (H++[.clos d (ct.map fun j=>c.cl.getD j 0)]) hd'->FS cc c (st i (.ref H.length) loc) (H++[.clos d (ct.map fun j=>c.cl.getD j 0)]) ad' hd' s'->Qr .next s'):
  Vy (Vt cc.prog cc.w) A (exec (.FunctionDef (cc.cdat d).name (cc.cdat d).params (cc.cdat d).body [] none [] (cc.cdat d).scope none (cc.cdat d).name (cc.cdat d).pos) c.env) Qr Er s:=by
 refine nestDef_K DS.d0 DS.k0 DS.ann ?_;rw[DS.qual];refine oZ fun zq=>?_;refine o1 (F.ads DS.free) fun ads ha1 ha2=>?_;have g:=(F.glob O eo).1;rw[eo.globals]at g;have mP:=t.mem;have hPg:=F.hr.hid _ mP;refine Uu DO.bmain fun bm ob b1 b2 b3 b4 b5 b6=>?_;refine zq ?_;have newP:cc.G.get? P=none:=F.hr.new _ (Vh _ (Vh _ (Vz (f:=Wr) mP)));have hgP:mainGlobals≠P:=fun q=>by
  refine o9 O.rd.g fun o es ep e _=>?_;rw[q,newP]at e;injection e
 have hbP:bm≠P:=fun q=>by rw[q,newP]at b3;injection b3
 have hbG:bm≠mainGlobals:=fun q=>by
  refine TB O.rd.g fun o es ep e hd' _=>?_;rw[q,e]at b3;(injection b3 with b3;subst b3);rw[hd']at b6;injection b6
 have ht:TriplesOk (fG (cc.cdat d).pos (hd.code d)).toList:=by
  induction hd.code d using Option.casesOn with
  |none=>exact trivial
  |some a=>exact trivial
 have hf:codeAmong (cc.cdat d).pos (fG (cc.cdat d).pos (hd.code d)).toList=(hd.code d).map Wo:=by
  induction hd.code d using Option.casesOn with
  |none=>rfl
  |some a=>simp[fG,codeAmong,rawInt]
 have hfl:(cc.cdat d).free.length=(ct.map fun j=>c.cl.getD j 0).length:=by rw[VI];exact DS.free.length.symm
 refine zv (DS.clos ads ha1) eo.globals g hcode C hPg ht hf hgP ⟨bm,ob,b1,b2,hbG,hbP,F.hr.keep _ _ b3,b4,b5,b6⟩ fun c' ctv doc h' tk hsz hm=>?_;have fin:∀hd',hd.le hd'->hd'.code d=some c'->FS cc c loc H ad hd' {s with heap:=h',toks:=tk}->
   Vy (Vt cc.prog cc.w) A (ZM c.env (cc.cdat d).name (.ref h'.objs.size)) (fun _ s''=>Qr .next s'') Er {s with heap:=h'.push {cls:=.type "function",data:=.func (fnX (cc.cdat d).name (cc.cdat d).qual (cc.cdat d).params (cc.cdat d).body (cc.cdat d).scope ((cc.cdat d).free.zip ads) .none .none doc ((cc.mg "__name__").getD .none) none (.ref c') ctv)},toks:=tk}:=by
  intro hd' le hc F1;have F2:=F1.alloc (ao:=.clos d (ct.map fun j=>c.cl.getD j 0)) (k:=tk) (fun b o e=>Vx _ e) (Wd (VB _)) (V_ _ rfl)
   (i3 ads c' doc ((cc.mg "__name__").getD .none) ctv hc (ha2.mono fun _ _ e=>aX (VA ..) e) hfl rfl)
  have T2:Tr ad H hd (ad++[h'.objs.size]) (H++[.clos d (ct.map fun j=>c.cl.getD j 0)]) hd':=⟨VA ..,.snoc _ _,le⟩
  refine df (v:=.ref H.length) O eo F2 hx hl (i0 _ ?_ rfl) fun s' F'=>q _ _ _ T2 F';rw[←F.hr.len,Vm (VB _),X_];rfl
 induction hcd:hd.code d using Option.casesOn with
 |some a=>
  rw[hcd]at hm;refine oZ fun zq=>?_;obtain⟨rfl,k1⟩:=hm;refine zq ?_;exact fin hd (.refl _) hcd (F.grow k1)
 |none=>
  rw[hcd]at hm;refine oZ fun zq=>?_;refine UT hm fun x hc0 hP1 o P' e1 e2 e3 e4 e5=>?_;refine eD (F.codeNew (tk:=tk) t hcd x (by rw[hP1];rfl) hc0 e1 e2 e3 e4 e5) fun hd' le hc F1=>?_;refine zq ?_;exact fin hd' le hc F1
def FS.forget(F:FS cc c loc H ad hd s):FS cc c [] H ad hd s:=by
 refine o1 F.ns fun m n L=>?_;exact⟨(i0 m n (fun i v e=>by cases e)),F.hr,F.own,F.above,F.cells,F.hdl,F.oth⟩
def FS.reFr(F:FS cc c loc H ad hd s)(e:fr'.map (·.1)=c.fr.map (·.1))(ha:a∈c.fr.map (·.1))(x:Wa a s.heap h')
  (frm:∀p∈fr',∃sl,h'.get? p.1=some {p.2 with slots:=sl}):FS cc {c with fr:=fr'} loc H ad hd {s with heap:=h',toks:=tk}:=by
 have nd0:=VX.mp F.hr.nodup;have nd1:=VX.mp nd0.2.1;have ht:tot cc fr' hd ad=tot cc c.fr hd ad:=by unfold tot;rw[e]
 have gne:∀{b o},cc.G.get? b=some o->b≠a:=fun{b o} q z=>by
  rw[z,F.hr.new a (Vh _ (Vk _ ha))]at q;injection q
 refine o1 F.ns fun m n L=>?_;have hLa:c.env.locals≠a:=fun z=>F.own (z▸Vh _ (Vk _ ha));refine⟨(i0 m (n.extBut x hLa) L),⟨fun b o q=>x b o (gne q) (F.hr.keep b o q),F.hr.len,?_,?_,fun i ao q=>?_,frm,fun p hp=>?_,F.hr.hok⟩,?_,F.above,F.cells,F.hdl,⟨F.oth.gens,F.oth.drawn,F.oth.os⟩⟩
 ·show(tot cc fr' hd ad).Nodup;rw[ht];exact F.hr.nodup
 ·intro b (hb:b∈tot cc fr' hd ad);rw[ht]at hb;exact F.hr.new b hb
 ·refine o6 (F.hr.obj i ao q) fun b o e1 e2 r=>?_;exact i1 b o e1 (x b o (fun z=>nd0.2.2 b (VP e1) a (Vk _ ha) z) e2) r
 ·exact x _ _ (fun z=>nd1.2.2 a ha p.1 (Vz (f:=Wr) hp) z.symm) (F.hr.hid p hp)
 ·show c.env.locals∉tot cc fr' hd ad;rw[ht];exact F.own
noncomputable def jo(c:FC)(csc:VZ)(cl:List (Str×Addr))(oL:Obj)(C I D:Addr)(oI oD:Obj):FC:=
 ⟨XB csc cl C c.env,c.cn,c.cl,(I,oI)::(D,oD)::(c.env.locals,oL)::c.fr,c.hn,c.hd0⟩
abbrev RS(ad:List Addr)(acc:List AV)(oD:Obj):Prop:=∃vs,(oD.cls=.type "list"/\∃n,oD.data=.seq vs n)/\aw (VR ad) acc vs.toList
abbrev l6(cc:CC)(c:FC)(A:VN)(ifs:List Expr)(loc:aM)(D:vW):Prop:=
 bZ cc c A loc (forIn ifs true fun e r=>if r=true then do let ok←isTrue e c.env (eval e c.env);pure (YU ok)else pure (YU r)) D
def tV:l6 cc c A [] loc (fun H Q _=>Q true H):=by
 intro H ad hd s Q E Qr Er F d q e;exact wpAny_tests_nil (q true H ad hd s (.refl _ _ _) F d)
def tW(h:bZ cc c A loc (VM t c.env (eval t c.env)) D):l6 cc c A [t] loc D:=by
 intro H ad hd s Q E Qr Er F d q e;exact wpAny_tests_one (h H ad hd s Q E Qr Er F d q e)
structure ug(cc:CC)(c:FC)(csc:VZ)(cl:List (Str×Addr))(oL:Obj)(C I D:Addr)(ItO:Nat->Obj->Prop)(side:AH->List Addr->Prop)(H0:AH)(ad0:List Addr)(hd0:Hid)
  (i:Nat)(acc:List AV)(H:AH)(ad:List Addr)(hd:Hid)(oI oD:Obj)(s:Vo):Prop where
 fs:FS cc (jo c csc cl oL C I D oI oD) [] H ad hd s
 it:ItO i oI
 acc:RS ad acc oD
 side:side H ad
 tr:Tr ad0 H0 hd0 ad H hd
inductive TZ(cc:CC)(c:FC)(csc:VZ)(cl:List (Str×Addr))(oL:Obj)(C I D:Addr)(ItO:Nat->Obj->Prop)(side:AH->List Addr->Prop)(H0:AH)(ad0:List Addr)(hd0:Hid)(items:List AV)(G:List AV->List AV->AH->Prop)(m:Nat)(s:Vo):Prop
 |mk (i:Nat)(acc:List AV)(H:AH)(ad:List Addr)(hd:Hid)(oI oD:Obj)(em:m=items.length-i)(hi:i<=items.length)(ha:acc.length<=i)(K:ug cc c csc cl oL C I D ItO side H0 ad0 hd0 i acc H ad hd oI oD s)(d:G (items.drop i) acc H)
def zb{csc:VZ}{cl:List (Str×Addr)}{oL:Obj}{C I D:Addr}{ItO:Nat->Obj->Prop}{side:AH->List Addr->Prop}{items:List AV}{elt iter:Expr}{ifs:List Expr}{x:Str}{px pos:Pos}{n:Nat}
  {R:Xu->Vo->Prop}{DT:AV->vW}{DE:AV->ja}{QL:List AV->AH->Prop}{E:AH->Prop}{H0:AH}{ad0:List Addr}{hdd:Hid}
  (O:aO cc)(W:Ka cc A I ItO side items)(hlen:items.length<=100) (eo:∀oI oD,ay (jo c csc cl oL C I D oI oD))(hx:cc.T.nm[n]?=some x)(hl:(relabel csc c.env).names.lookup x=some .local)
  (hT:∀oI oD v,l6 cc (jo c csc cl oL C I D oI oD) A ifs [(n,v)] (DT v)) (hE:∀oI oD v,aC cc (jo c csc cl oL C I D oI oD) A [(n,v)] (eval elt (XB csc cl C c.env)) (DE v))
  (sd:AH->Prop) (hsd:∀H ad hd H' ad' hd',side H ad->Tr ad H hd ad' H' hd'->sd H'->side H' ad')
  (fin:∀acc H ad hd oI oD s,ug cc c csc cl oL C I D ItO side H0 ad0 hdd items.length acc H ad hd oI oD s->QL acc H->∀h',Wa I s.heap h'->R (.ok .next) {s with heap:=h'})
  (err:∀oI oD loc H ad hd s ea,FS cc (jo c csc cl oL C I D oI oD) loc H ad hd s->Tr ad0 H0 hdd ad H hd->yM cc c.hn (jo c csc cl oL C I D oI oD).fr (some C) hd ad ea s.heap->E H->Y8 (Vt cc.prog cc.w) A (XB csc cl C c.env) (fun e s'=>R (.error e) s') (.ref ea) s)
  {H:AH} {ad:List Addr} {hd:Hid} {oI oD:Obj} {s:Vo} (K:ug cc c csc cl oL C I D ItO side H0 ad0 hdd 0 [] H ad hd oI oD s)
  (d:bt sd (fun v H Q=>DT v H Q E) (fun v H Q=>DE v H Q E) items [] H QL):
  Yj (Vt cc.prog cc.w) A (.compLoop (.ListComp elt [⟨.Name x px,iter,ifs,0⟩] csc pos) 0 (.ref I) (.ref D) (XB csc cl C c.env)) R s:=by
 refine codeAny_compLoop_tests (TZ cc c csc cl oL C I D ItO side H0 ad0 hdd items fun l acc H=>bt sd (fun v H Q=>DT v H Q E) (fun v H Q=>DE v H Q E) l acc H QL) ?_ (items.length)
  ⟨0,[],H,ad,hd,oI,oD,rfl,Wy _,VB _,K,d⟩
 rintro m s ⟨i,acc,H,ad,hd,oI,oD,rfl,hi,hai,K,d⟩;have hIfr:(I:Addr)∈(jo c csc cl oL C I D oI oD).fr.map (·.1):=Vl ..;refine o8 (K.fs.hr.frm (I,oI) (Vl ..)) fun slI gI=>?_;refine o8 (K.fs.hr.frm (D,oD) (Vj _ (Vl ..))) fun slD gD=>?_;have nd0:=VX.mp K.fs.hr.nodup;have nd1:=(VX.mp nd0.2.1).1;have nd2:=VQ.mp (show((I:Addr)::D::c.env.locals::c.fr.map (·.1)).Nodup from nd1);have nd3:=VQ.mp nd2.2;induction hit:items[i]? using Option.casesOn with
 |none=>
  have hie:i=items.length:=by
   have:=YN.mp hit;exact DX hi this
  subst hie;rw[Z8]at d;refine W.done H ad hd _ s _ _ _ K.fs.hr K.side gI (W.slot _ _ _ K.it) fun h' xb=>?_;exact fin acc H ad hd oI oD s K d h' xb
 |some v=>
  have hlt:=(Vn.mp hit).1;have hdrop:items.drop i=v::items.drop (i+1):=by rw[WK hlt];congr 1;exact(Vn.mp hit).2
  rw[hdrop]at d;rw[jr]at d;refine W.item i v H ad hd _ s _ _ _ hit K.fs.hr K.side gI (W.slot _ _ _ K.it) fun u h1 tk oI' r hI' it' xb=>?_;have F1:FS cc (jo c csc cl oL C I D oI' oD) [] H ad hd {s with heap:=h1,toks:=tk}:=by
   refine K.fs.reFr (fr':=(I,oI')::(D,oD)::(c.env.locals,oL)::c.fr) rfl hIfr xb fun p hp=>?_;rcases Vv.mp hp with rfl|hp
   ·exact i4 oI'.slots hI'
   ·refine o8 (K.fs.hr.frm p (Vj _ hp)) fun sl e=>?_;exact i4 sl (xb _ _ (fun z=>nd2.1 (z▸Vz (f:=Wr) hp)) e)
  show Vy _ A (assign (.Name x px) (XB csc cl C c.env) u) _ _ _;refine wpAny_assign_Name (df (c:=jo c csc cl oL C I D oI' oD) O (eo _ _) F1 hx hl r fun s2 F2=>?_);refine hT oI' oD v H ad hd s2 _ E _ _ F2 d (fun b H3 ad3 hd3 s3 T3 F3 d3=>?_) (fun H3 ad3 hd3 s3 ea T3 F3 fl e3=>err _ _ _ _ _ _ _ _ F3 (K.tr.trans T3) fl e3);induction b using Vu with
  |false=>
   rw[if_neg (by decide)]at d3;rw[if_neg (by decide)];refine o1 K.acc fun vs o1 o2=>?_;refine⟨items.length-(i+1),by exact DY hlt,i+1,acc,H3,ad3,hd3,oI',oD,rfl,hlt,by exact DZ hai,⟨F3.forget,it',(i0 vs o1 (o2.mono fun _ _ z=>z.mono T3.ad)),hsd _ _ _ _ _ _ K.side T3 d3.1,K.tr.trans T3⟩,d3.2⟩
  |true=>
   rw[if_pos rfl]at d3;rw[if_pos rfl];refine hE oI' oD v H3 ad3 hd3 s3 _ E _ _ F3 d3 (fun w H4 ad4 hd4 s4 y T4 F4 r4 d4=>?_) (fun H4 ad4 hd4 s4 ea T4 F4 fl e4=>err _ _ _ _ _ _ _ _ F4 ((K.tr.trans T3).trans T4) fl e4);refine RG K.acc fun vs o1 nn o2 o3=>?_;refine o8 (F4.hr.frm (D,oD) (Vj _ (Vl ..))) fun slD' gD'=>?_;have hsz:vs.size<=sizeLine:=by
    have e1:acc.length=vs.size:=o3.length;have e2:sizeLine≥100:=by decide
    have e3:acc.length<=100:=by exact OY hlt hlen hai
    rw[←e1];exact V4 e3 e2
   refine wpAny_list_append (items:=vs) (i7 _ gD' o1 nn o2) (fun h5 hl5 sb5=>?_) hsz;refine TA hl5 fun oD' g5 c5 n5 dd5=>?_;have F5:FS cc (jo c csc cl oL C I D oI' oD') [(n,v)] H4 ad4 hd4 {s4 with heap:=h5}:=by
    refine F4.reFr (a:=D) (tk:=s4.toks) (fr':=(I,oI')::(D,oD')::(c.env.locals,oL)::c.fr) rfl (Vj _ (Vl ..)) sb5.extBut fun p hp=>?_;rcases Vv.mp hp with rfl|hp
    ·refine o8 (F4.hr.frm (I,oI') (Vl ..)) fun sl e=>?_;exact i4 sl (sb5.extBut _ _ (fun z=>nd2.1 (z▸Vl ..)) e)
    ·rcases Vv.mp hp with rfl|hp
     ·exact i4 oD'.slots g5
     ·refine o8 (F4.hr.frm p (Vj _ (Vj _ hp))) fun sl e=>?_;exact i4 sl (sb5.extBut _ _ (fun z=>nd3.1 (z▸Vz (f:=Wr) hp)) e)
   refine⟨items.length-(i+1),by exact DY hlt,i+1,acc++[w],H4,ad4,hd4,oI',oD',rfl,hlt,by rw[VH,W9];exact Il hai,⟨F5.forget,it',(i0 (vs.push y) ⟨c5,n5,dd5⟩ ?_),hsd _ _ _ _ _ _ K.side (T3.trans T4) d4.1,(K.tr.trans T3).trans T4⟩,d4.2⟩;rw[ZL];exact(o3.mono fun _ _ z=>z.mono (T3.trans T4).ad).append (.cons r4 .nil)
def HR.subFr(R:HR cc fr hd ad H h)(sb:fr'.Sublist fr):HR cc fr' hd ad H h:=by
 have sb2:(tot cc fr' hd ad).Sublist (tot cc fr hd ad):=List.Sublist.append (Yp _) (List.Sublist.append (sb.map _) (Yp _));exact⟨R.keep,R.len,sb2.nodup R.nodup,fun a ha=>R.new a (sb2.mem ha),R.obj,fun p hp=>R.frm p (sb.mem hp),R.hid,R.hok⟩
def HR.addFr(R:HR cc fr hd ad H h)(ha:a∉tot cc fr hd ad)(hg:cc.G.get? a=none)(e:h.get? a=some o):HR cc ((a,o)::fr) hd ad H h:=by
 have perm:(tot cc ((a,o)::fr) hd ad).Perm (a::tot cc fr hd ad):=by
  show(ad++(a::(fr.map (·.1)++_))).Perm _;exact Xh
 refine⟨R.keep,R.len,perm.nodup_iff.mpr (VQ.mpr ⟨ha,R.nodup⟩),fun b hb=>?_,R.obj,fun p hp=>?_,R.hid,R.hok⟩
 ·rcases Vv.mp (perm.mem_iff.mp hb)with rfl|hb
  ·exact hg
  ·exact R.new b hb
 ·rcases Vv.mp hp with rfl|hp
  ·exact⟨o.slots,e⟩
  ·exact R.frm p hp
def HR.frToAd(R:HR cc ((a,o)::fr) hd ad H h)(r:∀sl,OR cc hd (ad++[a]) ao {o with slots:=sl}):HR cc fr hd (ad++[a]) (H++[ao]) h:=by
 have perm:(tot cc ((a,o)::fr) hd ad).Perm (a::tot cc fr hd ad):=by
  show(ad++(a::(fr.map (·.1)++_))).Perm _;exact Xh
 have nd:=VQ.mp (perm.nodup_iff.mp R.nodup);refine o8 (R.frm (a,o) (Vl ..)) fun sl e=>?_;have R0:HR cc fr hd ad H h:=R.subFr (Xo _ _);exact R0.allocN R0.keep (fun _ _ _ e=>e) nd.1 (R.new a (perm.mem_iff.mpr (Vl ..))) e (r sl)
def HR.offFr(R:HR cc ((a,o)::fr) hd ad H h):a∉tot cc fr hd ad:=by
 have perm:(tot cc ((a,o)::fr) hd ad).Perm (a::tot cc fr hd ad):=by
  show(ad++(a::(fr.map (·.1)++_))).Perm _;exact Xh
 exact(VQ.mp (perm.nodup_iff.mp R.nodup)).1
def FS.addFr(F:FS cc c loc H ad hd s)(ha:a∉tot cc c.fr hd ad)(hL:c.env.locals≠a)(hg:cc.G.get? a=none)(e:s.heap.get? a=some o):FS cc {c with fr:=(a,o)::c.fr} loc H ad hd s:=by
 refine⟨F.ns,F.hr.addFr ha hg e,fun m=>?_,F.above,F.cells,F.hdl,F.oth⟩;have perm:(tot cc ((a,o)::c.fr) hd ad).Perm (a::tot cc c.fr hd ad):=by
  show(ad++(a::(c.fr.map (·.1)++_))).Perm _;exact Xh
 rcases Vv.mp (perm.mem_iff.mp m)with z|z
 ·exact hL z
 ·exact F.own z
def FS.dropFr(F:FS cc {c with fr:=(a,o)::c.fr} loc H ad hd s)(x:Wa a s.heap h'):FS cc c loc H ad hd {s with heap:=h',toks:=tk}:=by
 have F1:=F.reFr (tk:=tk) (a:=a) (fr':=(a,o)::c.fr) (h':=h') rfl (Vl ..) x;refine o1 F.ns fun m n L=>?_;have hLa:c.env.locals≠a:=fun z=>F.own (Vh _ (Vk _ (by rw[show({c with fr:=(a,o)::c.fr}:FC).env.locals=a from z];exact Vl ..)));have off:=F.hr.offFr;have hg:cc.G.get? a=none:=F.hr.new a (Vh _ (Vk _ (Vl ..)));have R:=(F.hr.subFr (Xo _ _)).but off hg x;refine⟨(i0 m (n.extBut x hLa) L),R,fun z=>F.own ?_,F.above,F.cells,F.hdl,⟨F.oth.gens,F.oth.drawn,F.oth.os⟩⟩;rcases Vs.mp z with z|z
 ·exact Vk _ z
 ·rcases Vs.mp z with z|z
  ·exact Vh _ (Vk _ (Vj _ z))
  ·exact Vh _ (Vh _ z)
noncomputable def mq(env:Env):List (Str×Wf)->List (Str×Addr)->List (Str×Addr)
 |[],acc=>acc
 |(n,k)::r,acc=>mq env r (if k==.free then(n,(env.cells.lookup n).getD 0)::acc else acc)
def sN{k:Wf}:mq env ((n,k)::r) acc=mq env r (if k==.free then(n,(env.cells.lookup n).getD 0)::acc else acc):=rfl
def lA(hx:∀n,(n,Wp)∈scope.names->∃a,env.cells.lookup n=some a):XM scope env=pure (mq env scope.names []):=by
 unfold XM;have key:∀(names:List (Str×Wf)) (acc:List (Str×Addr)),(∀n,(n,Wp)∈names->∃a,env.cells.lookup n=some a)->
   (forIn names acc fun(x:Str×Wf) (cs:List (Str×Addr))=>(match x with
    |(name,kind)=>if(kind==Wp)=true then do let a←cellOf env name;pure (YU ((name,a)::cs))else pure (YU cs):Sem (ForInStep (List (Str×Addr)))))=pure (mq env names acc):=by
  intro names;induction names with
  |nil=>intro acc _;rfl
  |cons q r ih=>
   obtain⟨n,k⟩:=q;intro acc hx;rw[Yr];by_cases hk:(k==Wp)=true
   ·refine o8 (hx n (by rw[show k=Wp from beq_iff_eq.mp hk];exact Vl ..)) fun a ha=>?_;simp only[hk,if_true,cellOf,ha,pure_bind,sN,ZO];exact ih _ fun m hm=>hx m (Vj _ hm)
   ·simp only[Xj]at hk;simp only[hk,V0,if_false,pure_bind,sN];exact ih _ fun m hm=>hx m (Vj _ hm)
 have:=key scope.names [] hx;rw[show(pure (mq env scope.names []):Sem _)=(pure (mq env scope.names [])>>=fun cs=>pure cs)from(pure_bind _ _).symm,←this]
theorem lB(hx:env.cells.lookup x=some a):∀(names:List (Str×Wf))(acc:List (Str×Addr)),(∀y b,acc.lookup y=some b->env.cells.lookup y=some b)->
  (∀n,(n,Wp)∈names->∃a,env.cells.lookup n=some a)->((x,Wp)∈names\/acc.lookup x=some a)->(mq env names acc).lookup x=some a
 |[],acc,_,_,h=>h.elim (fun h=>nomatch h) id
 |(n,k)::r,acc,hacc,hn,h=>by
  have hn':∀m,(m,Wp)∈r->∃a,env.cells.lookup m=some a:=fun m hm=>hn m (Vj _ hm);rw[sN];by_cases hk:(k==Wp)=true
  ·refine o8 (hn n (by rw[show k=Wp from beq_iff_eq.mp hk];exact Vl ..)) fun b hb=>?_;rw[if_pos hk,hb];have hacc':∀y d,((n,b)::acc).lookup y=some d->env.cells.lookup y=some d:=fun y d e=>by
    rw[W5]at e;by_cases hy:(y==n)=true
    ·rw[hy]at e;(injection e with e;subst e);rw[beq_iff_eq.mp hy];exact hb
    ·simp only[Xj]at hy;rw[hy]at e;exact hacc y d e
   refine lB hx r _ hacc' hn' ?_;by_cases hxn:(x==n)=true
   ·right;simp only[ZO];rw[W5,hxn,←hb,←beq_iff_eq.mp hxn];exact hx
   ·rcases h with h|h
    ·rcases Vv.mp h with q|q
     ·(injection q with q;subst q);simp at hxn
     ·exact .inl q
    ·right;simp only[Xj]at hxn;simp only[ZO];rw[W5,hxn];exact h
  ·rw[if_neg hk];refine lB hx r _ hacc hn' ?_;rcases h with h|h
   ·rcases Vv.mp h with q|q
    ·cases q;exact absurd rfl hk
    ·exact .inl q
   ·exact .inr h
theorem iv{k:Wf}:∀{l:List (Str×Wf)},l.lookup x=some k->(x,k)∈l
 |(n,j)::r,e=>by
  rw[W5]at e;by_cases hx:(x==n)=true
  ·rw[hx]at e;(injection e with e;subst e);rw[beq_iff_eq.mp hx];exact Vl ..
  ·simp only[Xj]at hx;rw[hx]at e;exact Vj _ (iv e)
def relabel_rel:aN csc (relabel csc env):=by
 intro x;unfold relabel;generalize csc.names=l;induction l with
 |nil=>exact .inl rfl
 |cons q r ih=>
  obtain⟨n,k⟩:=q;rw[VL];dsimp only at ih⊢;generalize hr:List.map _ r=r' at ih⊢;by_cases hc:(k==Wp&&env.scope.kind==.function&&env.kindOf n==some .cell)=true
  ·simp only[if_pos hc];simp only[VU,beq_iff_eq]at hc;simp only[W5];induction hx:x==n using Vu with
   |true=>right;exact⟨by rw[hc.1.1],rfl⟩
   |false=>exact ih
  ·simp only[if_neg hc];simp only[W5];induction hx:x==n using Vu with
   |true=>left;rfl
   |false=>exact ih
structure jf(c:FC)(csc:VZ):Prop where
 kind:csc.kind=.function
 names:∀y∈csc.names,y.2=.local->csc.names.lookup y.1=some .local
 nocell:∀y∈csc.names,y.2≠.cell
 free:∀n,(n,Wp)∈csc.names->∃j:Nat,c.cn[j]?=some n/\(c.env.scope.names.lookup n=some .cell\/c.env.scope.names.lookup n=some .free)
noncomputable abbrev pR(c:FC)(csc:VZ):List (Str×Addr):=mq c.env csc.names []
abbrev Kn(cc:CC)(c:FC)(csc:VZ)(oL:Obj)(C I D:Addr)(ItO:Nat->Obj->Prop)(side:AH->List Addr->Prop)(H0:AH)(ad0:List Addr)(hdd:Hid)(n:Nat)(QL:List AV->AH->Prop)(R:Xu->Vo->Prop):Prop:=
 ∀acc H ad hd oI oD s,ug cc c csc (pR c csc) oL C I D ItO side H0 ad0 hdd n acc H ad hd oI oD s->QL acc H->∀h',Wa I s.heap h'->R (.ok .next) {s with heap:=h'}
abbrev RO(cc:CC)(c:FC)(A:VN)(csc:VZ)(oL:Obj)(C I D:Addr)(H0:AH)(ad0:List Addr)(hdd:Hid)(E:AH->Prop)(R:Xu->Vo->Prop):Prop:=
 ∀oI oD loc H ad hd s ea,FS cc (jo c csc (pR c csc) oL C I D oI oD) loc H ad hd s->Tr ad0 H0 hdd ad H hd->yM cc c.hn (jo c csc (pR c csc) oL C I D oI oD).fr (some C) hd ad ea s.heap->E H->
  Y8 (Vt cc.prog cc.w) A (XB csc (pR c csc) C c.env) (fun e s'=>R (.error e) s') (.ref ea) s
def FS.outC
  (back:∀(h:Heap) sl,h.get? c.env.locals=some {oL with slots:=sl}->∀ad' hd' H' s',ad<+:ad'->jg c.hd0 ad' H'->s'.heap=h->HR cc ((c.env.locals,oL)::c.fr) hd' ad' H' h->Ga cc s'->FS cc c loc H' ad' hd' s')
  (pf:ad<+:ad') (F:FS cc (jo c csc (pR c csc) oL C I D oI oD) loc' H' ad' hd' s'):
  ∃oC,(∀(h:Heap) sl,h.get? C=some {oC with slots:=sl}->∃m,h.Ns C m)/\FS cc {c with fr:=(D,oD)::(C,oC)::c.fr} loc H' ad' hd' s':=by
 refine RA F.ns fun m oC es ep gC dC rC _=>?_;have nd0:=VX.mp F.hr.nodup;have nd1:=(VX.mp nd0.2.1).1;have nd2:=VQ.mp (show((I:Addr)::D::c.env.locals::c.fr.map (·.1)).Nodup from nd1);have nd3:=VQ.mp nd2.2;have RD:HR cc ((D,oD)::(c.env.locals,oL)::c.fr) hd' ad' H' s'.heap:=F.hr.subFr (Xo _ _);have R1:HR cc ((c.env.locals,oL)::c.fr) hd' ad' H' s'.heap:=RD.subFr (Xo _ _);refine o8 (R1.frm _ (Vl ..)) fun sl gL=>?_;have F1:=back s'.heap sl gL ad' hd' H' s' pf F.hdl rfl R1 F.oth;have sub:∀b,b∈tot cc c.fr hd' ad'->b∈tot cc (jo c csc (pR c csc) oL C I D oI oD).fr hd' ad':=fun b hb=>by
  rcases Vs.mp hb with z|z
  ·exact Vk _ z
  ·rcases Vs.mp z with z|z
   ·exact Vh _ (Vk _ (Vj _ (Vj _ (Vj _ z))))
   ·exact Vh _ (Vh _ z)
 have inL:c.env.locals∈tot cc (jo c csc (pR c csc) oL C I D oI oD).fr hd' ad':=Vh _ (Vk _ (Vj _ (Vj _ (Vl ..))));have inD:D∈tot cc (jo c csc (pR c csc) oL C I D oI oD).fr hd' ad':=Vh _ (Vk _ (Vj _ (Vl ..)));have F2:=F1.addFr (a:=C) (o:=oC) (fun hm=>F.own (sub _ hm)) (fun z=>F.own (by show C∈_;rw[←z];exact inL)) F.ownG gC;refine o8 (RD.frm _ (Vl ..)) fun slD gD=>?_;have offD:=RD.offFr;have F3:=F2.addFr (a:=D) (o:={oD with slots:=slD}) (fun hm=>?_) (fun z=>nd3.1 (z▸Vl ..)) (F.hr.new D inD) gD
 ·refine⟨oC,fun h sl e=>⟨m,_,es,ep,e,dC,rC⟩,F3.ns,⟨F3.hr.keep,F3.hr.len,F3.hr.nodup,F3.hr.new,F3.hr.obj,fun p hp=>?_,F3.hr.hid,F3.hr.hok⟩,F3.own,F3.above,F3.cells,F3.hdl,F3.oth⟩;rcases Vv.mp hp with rfl|hp
  ·exact⟨slD,gD⟩
  ·exact F3.hr.frm p (Vj _ hp)
 ·rcases Vs.mp hm with z|z
  ·exact offD (Vk _ z)
  ·rcases Vs.mp z with z|z
   ·rcases Vv.mp z with z|z
    ·exact F.own (by show C∈_;rw[←show D=C from z];exact inD)
    ·exact offD (Vh _ (Vk _ (Vj _ z)))
   ·exact offD (Vh _ (Vh _ z))
def FS.frToAd(F:FS cc {c with fr:=(a,o)::fr} loc H ad hd s)(r:∀sl,OR cc hd (ad++[a]) ao {o with slots:=sl}):FS cc {c with fr:=fr} loc (H++[ao]) (ad++[a]) hd s:=by
 refine o1 F.ns fun m n L=>?_;refine⟨(i0 m n (L.mono (VA ..))),F.hr.frToAd r,fun z=>F.own ?_,F.above,fun j x q y=>?_,F.hdl.tr (hd:=hd) (hd':=hd) ⟨VA ..,.snoc _ _,.refl _⟩,F.oth⟩
 ·rcases mem_snoc z with z|z
  ·rw[z];exact Vh _ (Vk _ (Vl ..))
  ·rcases Vs.mp z with z|z
   ·exact Vk _ z
   ·rcases Vs.mp z with z|z
    ·exact Vh _ (Vk _ (Vj _ z))
    ·exact Vh _ (Vh _ z)
 ·refine o6 (F.cells j x q y) fun a' i e1 e2 e3=>?_;exact i1 a' i e1 e2 (aX (VA ..) e3)
def FS.but(F:FS cc c loc H ad hd s)(ha:a∉tot cc c.fr hd ad)(hL:c.env.locals≠a)(hg:cc.G.get? a=none)(x:Wa a s.heap h'):FS cc c loc H ad hd {s with heap:=h',toks:=tk}:=by
 refine o1 F.ns fun m n L=>?_;exact⟨(i0 m (n.extBut x hL) L),F.hr.but ha hg x,F.own,F.above,F.cells,F.hdl,⟨F.oth.gens,F.oth.drawn,F.oth.os⟩⟩
def bx.comp(ao:bx c A k)(dL:kb oL):bx (jo c csc cl oL C I D oI oD) A k:=by
 refine o1 ao.frames fun envs e1 e2=>?_;refine⟨ao.room,ao.units,(i0 envs e1 (fun e he=>?_)),ao.hnd,ao.hn⟩;refine JV (e2 e he) fun k1 a k2 k3=>?_;refine uX k1 a k2 (.inr ?_);rcases k3 with rfl|⟨o,m,d⟩
 ·exact i0 oL (Vj _ (Vj _ (Vl ..))) dL
 ·exact i0 o (Vj _ (Vj _ (Vj _ m))) d
def CL:Xr x (XB csc cl C c.env)=Xr x c.env:=rfl
abbrev xo(cc:CC)(c:FC)(loc:aM)(ad:List Addr)(oL:Obj):Prop:=
 ∀(h:Heap) sl,h.get? c.env.locals=some {oL with slots:=sl}->∀ad' hd' H' s',ad<+:ad'->jg c.hd0 ad' H'->s'.heap=h->HR cc ((c.env.locals,oL)::c.fr) hd' ad' H' h->Ga cc s'->FS cc c loc H' ad' hd' s'
def uO(ao:bx c A k)(tp:aR c A)(back:xo cc c loc ad oL)
  (he:KE cc c loc H ad hd E Er):
  RO cc c A csc oL C I D H ad hd E (compPost (Vt cc.prog cc.w) A Er use Q (.ref D) C):=by
 intro oI oD loc' H' ad' hd' s' ea F T fl e;show Vy _ A (Xr (.ref ea) (XB csc (pR c csc) C c.env)) _ _ _;rw[CL];refine o1 (F.outC back T.ad) fun oC nsC F1=>?_;have F1':FS cc {c with fr:=(C,oC)::c.fr} loc H' ad' hd' s':=by
  refine⟨F1.ns,F1.hr.subFr (Xo _ _),fun z=>F1.own ?_,F1.above,F1.cells,F1.hdl,F1.oth⟩;rcases Vs.mp z with z|z
  ·exact Vk _ z
  ·rcases Vs.mp z with z|z
   ·exact Vh _ (Vk _ (Vj _ z))
   ·exact Vh _ (Vh _ z)
 have ao1:bx {c with fr:=(C,oC)::c.fr} A k:=by
  refine o1 ao.frames fun envs e1 e2=>?_;refine⟨ao.room,ao.units,(i0 envs e1 (fun e he=>?_)),ao.hnd,ao.hn⟩;refine JV (e2 e he) fun k1 a k2 k3=>?_;refine uX k1 a k2 ?_;rcases k3 with rfl|⟨o,m,d⟩
  ·exact .inl rfl
  ·exact .inr (i0 o (Vj _ m) d)
 have tp1:aR {c with fr:=(C,oC)::c.fr} A:=⟨tp.top,tp.frame⟩
 have fresh:∀{a},cD cc (jo c csc (pR c csc) oL C I D oI oD).fr (some C) hd' ad' a->cD cc ((C,oC)::c.fr) (some c.env.locals) hd' ad' a:=fun{a} f=>by
  have key:∀b,b∈c.fr.map (·.1)->b∈tot cc (jo c csc (pR c csc) oL C I D oI oD).fr hd' ad':=fun b hb=>
   Vh _ (Vk _ (Vj _ (Vj _ (Vj _ hb))))
  refine⟨f.g,fun z=>?_,fun z=>?_⟩
  ·rcases Vs.mp z with z|z
   ·exact f.t (Vk _ z)
   ·rcases Vs.mp z with z|z
    ·rcases Vv.mp z with z|z
     ·exact f.o (by rw[z])
     ·exact f.t (key _ z)
    ·exact f.t (Vh _ (Vh _ z))
  ·(injection z with z;subst z);exact f.t (Vh _ (Vk _ (Vj _ (Vj _ (Vl ..)))))
 have fl1:yM cc c.hn ((C,oC)::c.fr) (some c.env.locals) hd' ad' ea s'.heap:=by
  refine Tx fl fun oe vs a1 a2 a3 a4 a5 a6 a7=>?_;refine⟨oe,vs,a1,a2,a3,a4,a5,fresh a6,?_⟩;rcases a7 with a7|⟨Tt,oT,ts,b1,b2,b3,b4,b5,b6⟩
  ·exact .inl a7
  ·exact .inr ⟨Tt,oT,ts,b1,b2,b3,b4,b5,fresh b6⟩
 refine yk (c:={c with fr:=(C,oC)::c.fr}) F1' ao1 tp1 fl1 fun h1 F2 fl2=>?_;have post:∃m,h1.Ns C m/\∀h',X7 C h1 h'->∀cenv:Env,cenv.locals=C->Vy (Vt cc.prog cc.w) A (PySem.passOn "comprehension.variables-let-go" (.ref ea) cenv:Sem Vq) (fun _ _=>False) Er {s' with heap:=h'}:=by
  refine o8 (F2.hr.frm (C,oC) (Vl ..)) fun sl gC=>?_;refine o8 (nsC _ _ gC) fun m nC=>?_;refine i0 m nC (fun h2 sb cenv hcl=>?_);have F3:FS cc c loc H' ad' hd' {s' with heap:=h2}:=F2.dropFr (tk:=s'.toks) sb.extBut;have fresh2:∀{a},cD cc ((C,oC)::c.fr) (some c.env.locals) hd' ad' a->cD cc c.fr (some c.env.locals) hd' ad' a/\a≠C:=fun{a} f=>by
   refine⟨⟨f.g,fun z=>f.t ?_,f.o⟩,fun z=>f.t (by rw[z];exact Vh _ (Vk _ (Vl ..)))⟩;rcases Vs.mp z with z|z
   ·exact Vk _ z
   ·rcases Vs.mp z with z|z
    ·exact Vh _ (Vk _ (Vj _ z))
    ·exact Vh _ (Vh _ z)
  refine Ke fl2 fun oe vs a1 a2 a3 a4 a5 a6 Tt oT ts b1 b2 b3 b4 b5 b6=>?_;have fl3:qY cc c.hn c.fr (some c.env.locals) hd' ad' ea h2:=⟨oe,vs,sb.extBut _ _ (fresh2 a6).2 a1,a2,a3,a4,a5,(fresh2 a6).1,Tt,oT,ts,b1,b2,sb.extBut _ _ (fresh2 b6).2 b3,b4,b5,(fresh2 b6).1⟩
  unfold PySem.passOn;have g3:=fl3;refine UU g3 fun oe' vs' a1' a2' a3' a4' a5' a6' Tt' oT' ts' b1' b2'=>?_;refine Vi (WA a1' a3' b1' ?_);rw[if_neg (show¬((Wo Tt'==We)=true)from V9)];refine Vi (rL F3 fl3 fun h4 F4 fl4=>?_);exact wpAny_throw (he _ _ _ _ _ T F4 fl4.fly e)
 induction use using Option.casesOn<;>exact post
def ay.comp(eo:ay c)(S:jf c csc):ay (jo c csc (pR c csc) oL C I D oI oD):=⟨S.kind,eo.globals,eo.builtins⟩
def pX{csc:VZ}{I:Addr}{oI:Obj}{ItO:Nat->Obj->Prop}{side:AH->List Addr->Prop}{items:List AV}{elt tgt iter:Expr}{ifs:List Expr}{pos:Pos}{Qc:Vq->Addr->Xu->Vo->Prop}{Er:d_}
  (S:jf c csc)(F:FS cc c loc H ad hd s)(gI:s.heap.get? I=some oI)(nI:I∉tot cc c.fr hd ad)(IL:c.env.locals≠I)(IG:cc.G.get? I=none)(it0:ItO 0 oI)(sd0:side H ad)(W:Ka cc A I ItO side items)
  (next:∀oL C D oD s',kb oL->xo cc c loc ad oL->ug cc c csc (pR c csc) oL C I D ItO side H ad hd 0 [] H ad hd oI oD s'->
   Yj (Vt cc.prog cc.w) A (.compLoop (.ListComp elt [⟨tgt,iter,ifs,0⟩] csc pos) 0 (.ref I) (.ref D) (XB csc (pR c csc) C c.env)) (Qc (.ref D) C) s'):
  Vy (Vt cc.prog cc.w) A (newList []) (fun acc s₃=>Vy (Vt cc.prog cc.w) A (Yi csc c.env.globals (pR c csc) [] c.env.qual none .none (some c.env)) (fun cenv s₄=>
   Yj (Vt cc.prog cc.w) A (.compStart (.ListComp elt [⟨tgt,iter,ifs,0⟩] csc pos) 0 (.ref I) acc {cenv with scope:=relabel csc c.env}) (Qc acc cenv.locals) s₄) Er s₃) Er s:=by
 refine Wl (wpAny_newFunctionEnv S.nocell (by intro y hy;simp at hy) (fun h₁ hns₁ hsb₁=>?_) S.kind);dsimp only at hns₁ hsb₁⊢;generalize hoD:({cls:=.type "list",dict:=none,data:=.seq ([]:List Vq).toArray}:Obj)=oD at hns₁ hsb₁⊢;have hC:(s.heap.push oD).objs.size=s.heap.objs.size+1:=WS ..;generalize hCC:(s.heap.push oD).objs.size=C at hns₁ hsb₁ hC⊢;have hDC:s.heap.objs.size≠C:=by rw[hC];exact WO (Yk _)
 have old:∀b o,s.heap.get? b=some o->h₁.get? b=some o:=fun b o e=>hsb₁.extBut b o (by rw[hC];exact WO (Nat.lt_succ_of_lt (Wb e))) (Vx _ (Vx _ e));have gD:h₁.get? s.heap.objs.size=some oD:=hsb₁.extBut _ _ hDC (Vx _ (V_ _ (by subst hoD;rfl)));refine eD F.into fun oL dL back RL=>?_;have liveSz:∀{b},b∈tot cc c.fr hd ad->b<s.heap.objs.size:=fun hb=>by refine o8 (F.hr.live hb) fun o e=>?_;exact Wb e
 have hLsz:c.env.locals<s.heap.objs.size:=by refine QM F.ns fun m o _ _ e _ _=>?_;exact Wb e
 have hIsz:=Wb gI;have gsz:∀{b},s.heap.objs.size<=b->cc.G.get? b=none:=fun{b} hb=>by
  induction q:cc.G.get? b using Option.casesOn with
  |none=>rfl
  |some o=>exact absurd (Wb (F.hr.keep _ _ q)) (W8.mpr hb)
 have memL:∀{b},b∈tot cc ((c.env.locals,oL)::c.fr) hd ad->b=c.env.locals\/b∈tot cc c.fr hd ad:=fun{b} hb=>by
  rcases Vs.mp hb with z|z
  ·exact .inr (Vk _ z)
  ·rcases Vs.mp z with z|z
   ·rcases Vv.mp z with z|z
    ·exact .inl z
    ·exact .inr (Vh _ (Vk _ z))
   ·exact .inr (Vh _ (Vh _ z))
 have RL1:=RL.grow old;have RD:HR cc ((s.heap.objs.size,oD)::(c.env.locals,oL)::c.fr) hd ad H h₁:=RL1.addFr (fun hb=>by
  rcases memL hb with z|z
  ·exact WQ _ (z▸hLsz)
  ·exact WQ _ (liveSz z)) (gsz (VB _)) gD
 have memD:∀{b},b∈tot cc ((s.heap.objs.size,oD)::(c.env.locals,oL)::c.fr) hd ad->b=s.heap.objs.size\/b=c.env.locals\/b∈tot cc c.fr hd ad:=fun{b} hb=>by
  rcases Vs.mp hb with z|z
  ·exact .inr (memL (Vk _ z))
  ·rcases Vs.mp z with z|z
   ·rcases Vv.mp z with z|z
    ·exact .inl z
    ·exact .inr (memL (Vh _ (Vk _ z)))
   ·exact .inr (memL (Vh _ (Vh _ z)))
 have RI:HR cc ((I,oI)::(s.heap.objs.size,oD)::(c.env.locals,oL)::c.fr) hd ad H h₁:=RD.addFr (fun hb=>by
  rcases memD hb with z|z|z
  ·exact WQ _ (z▸hIsz)
  ·exact IL z.symm
  ·exact nI z) IG (old _ _ gI)
 have F1:FS cc (jo c csc (pR c csc) oL C I s.heap.objs.size oI oD) [] H ad hd {s with heap:=h₁,toks:=s.toks+([]:List (Str×Vq)).length}:=by
  refine⟨(i0 _ hns₁ (fun i v e=>by cases e)),RI,fun hb=>?_,?_,fun j x hj hx=>?_,F.hdl,⟨F.oth.gens,F.oth.drawn,F.oth.os⟩⟩
  ·have hb':C∈tot cc ((I,oI)::(s.heap.objs.size,oD)::(c.env.locals,oL)::c.fr) hd ad:=hb;have:C<C:=by
    have lt:∀{b},b<=s.heap.objs.size->b<C:=fun hb=>by rw[hC];exact Nat.lt_succ_of_le hb
    rcases Vs.mp hb' with z|z
    ·exact lt (WR (liveSz (Vk _ z)))
    ·rcases Vs.mp z with z|z
     ·rcases Vv.mp z with z|z
      ·rw[show C=I from z]at lt⊢;exact lt (WR hIsz)
      ·rcases memD (Vh _ (Vk _ z))with z|z|z
       ·exact absurd z.symm hDC
       ·rw[z]at lt⊢;exact lt (WR hLsz)
       ·exact lt (WR (liveSz z))
     ·exact lt (WR (liveSz (Vh _ (Vh _ z))))
   exact WQ _ this
  ·show cc.G.objs.size<=C;rw[hC];exact V4 F.above (V4 (WR hLsz) (Nat.le_succ _))
  ·have hx':csc.names.lookup x=some .free:=by
    rcases hx with hx|hx
    ·rcases relabel_rel (csc:=csc) (env:=c.env) x with q|q
     ·have:(relabel csc c.env).names.lookup x=some .cell:=hx;rw[q]at this;exact absurd rfl (S.nocell _ (iv this))
     ·exact q.1
    ·rcases relabel_rel (csc:=csc) (env:=c.env) x with q|q
     ·have:(relabel csc c.env).names.lookup x=some .free:=hx;rw[q]at this;exact this
     ·exact q.1
   refine o1 (S.free x (iv hx')) fun j' h1 h2=>?_;refine o6 (F.cells j x hj h2) fun a i e1 e2 e3=>?_;refine i1 a i ?_ e2 e3;exact lB e1 _ _ (fun y b e=>by injection e) (fun n hn=>by
    refine o1 (S.free n hn) fun j2 h3 h4=>?_;refine o2 (F.cells j2 n h3 h4) fun a2 _ e4 _=>?_;exact i4 a2 e4) (.inl (iv hx'))
 have K:ug cc c csc (pR c csc) oL C I s.heap.objs.size ItO side H ad hd 0 [] H ad hd oI oD {s with heap:=h₁,toks:=s.toks+([]:List (Str×Vq)).length}:=
  ⟨F1,it0,(i0 (#[]) ⟨by subst hoD;rfl,_,by subst hoD;rfl⟩ .nil),sd0,.refl _ _ _⟩
 have g:=next oL C s.heap.objs.size oD _ dL back K
 refine codeAny_compStart_list g ?_;exact W.self 0 _ _ _ oI (old _ _ gI) it0 g
end
section
variable{cc:CC}{c:FC}{A:VN}{Γ:cM}{k:Nat}{loc loc1:aM}{sc:VZ}{H:AH}{ad:List Addr}{hd:Hid}{s:Vo}{h h':Heap}{fr:List (Addr×Obj)}
variable{D:ja}
def BW{C I D:Addr}(back:xo cc c loc ad oL)
  (hq:∀acc H' ad' hd' s',Tr ad H hd (ad'++[D]) (H'++[.list acc]) hd'->FS cc c loc (H'++[.list acc]) (ad'++[D]) hd' s'->QL acc H'->Q (.ref D) s'):
  Kn cc c csc oL C I D ItO side H ad hd n QL (compPost (Vt cc.prog cc.w) A Er none Q (.ref D) C):=by
 intro acc H' ad' hd' oI oD s' K ql h' xb;refine o1 (K.fs.outC back K.tr.ad) fun oC nsC F1=>?_;have offI:=K.fs.hr.offFr;have inI:I∈tot cc (jo c csc (pR c csc) oL C I D oI oD).fr hd' ad':=Vh _ (Vk _ (Vl ..));have IC:I≠C:=fun z=>K.fs.own (by show C∈_;rw[←z];exact inI);have IL:c.env.locals≠I:=fun z=>offI (by rw[←z];exact Vh _ (Vk _ (Vj _ (Vl ..))));have F2:=F1.but (a:=I) (tk:=s'.toks) (fun z=>by
  rcases Vs.mp z with z|z
  ·exact offI (Vk _ z)
  ·rcases Vs.mp z with z|z
   ·rcases Vv.mp z with z|z
    ·exact offI (Vh _ (Vk _ (by rw[show I=D from z];exact Vl ..)))
    ·rcases Vv.mp z with z|z
     ·exact IC z
     ·exact offI (Vh _ (Vk _ (Vj _ (Vj _ z))))
   ·exact offI (Vh _ (Vh _ z))) IL (K.fs.hr.new I inI) xb
 refine RG K.acc fun vs o1 nn o2 o3=>?_;have F3:=F2.frToAd (ao:=.list acc) fun sl=>(i0 vs ⟨o1,nn,o2⟩ (o3.mono fun _ _ r=>r.mono (VA ..)))
 refine o8 (F3.hr.frm (C,oC) (Vl ..)) fun sl gC=>?_;refine o8 (nsC _ _ gC) fun m nC=>?_;refine i0 m nC (fun h2 sb=>?_);have F4:FS cc c loc (H'++[.list acc]) (ad'++[D]) hd' {s' with heap:=h2}:=F3.dropFr (tk:=s'.toks) sb.extBut;exact hq acc H' ad' hd' _ ⟨K.tr.ad.trans (VA ..),K.tr.H.trans (.snoc _ _),K.tr.hd⟩ F4 ql
def mi(O:aO cc)(eo:ay c)(hg:c.env.scope.names.lookup x=some .globalImplicit)(h1:cc.mg x=none)(h2:cc.mb x=some v)(hx:(x==("__debug__":Str))=false)
  (F:FS cc c loc H ad hd s)(q:Qr v s):Vy (Vt cc.prog cc.w) A (eval (.Name x p) c.env) Qr Er s:=
 WX eo.kind hg (loadGlobal_builtin (F.glob O eo).1 h1 (F.glob O eo).2 h2 q) hx
def lJ{P:Heap->Prop}:∀h,P h->∃k,(k=XW\/k=Xz\/k=W')/\Looks (Vt cc.prog cc.w) h (ZG (.type T)) k:=fun _ _=>(i0 .machine (.inr (.inl rfl)) .now)
def mM{P:Heap->Prop}:∀h,P h->∃k,(k=XW\/k=Xz\/k=W')/\Looks (Vt cc.prog cc.w) h (ZG (.builtin T)) k:=fun _ _=>(i0 .machine (.inr (.inl rfl)) .now)
def uP(O:aO cc)(eo:ay c)(ao:bx c A k)(tp:aR c A)(S:jf c csc){oI:Obj}
  {Qr:Vq->Vo->Prop}{Er:d_}{E:AH->Prop}{DT:AV->vW}{DE:AV->ja}{QL:List AV->AH->Prop}
  (F:FS cc c loc H ad hd s)(gI:s.heap.get? I=some oI)(nI:I∉tot cc c.fr hd ad)(IL:c.env.locals≠I)(IG:cc.G.get? I=none)(it0:ItO 0 oI)(sd0:side H ad)(W:Ka cc A I ItO side items)(hlen:items.length<=100)
  (hxn:cc.T.nm[n]?=some x)(hxl:csc.names.lookup x=some .local)
  (hT:∀c':FC,bx c' A k->ay c'->aN csc c'.env.scope->c'.cn=c.cn->c'.cl=c.cl->c'.hn=c.hn->∀v,l6 cc c' A ifs [(n,v)] (DT v))
  (hE:∀c':FC,bx c' A k->ay c'->aN csc c'.env.scope->c'.cn=c.cn->c'.cl=c.cl->c'.hn=c.hn->∀v,aC cc c' A [(n,v)] (eval elt c'.env) (DE v))
  (sd:AH->Prop) (hsd:∀H ad hd H' ad' hd',side H ad->Tr ad H hd ad' H' hd'->sd H'->side H' ad')
  (d:bt sd (fun v H Q=>DT v H Q E) (fun v H Q=>DE v H Q E) items [] H QL)
  (hq:∀acc H' ad' hd' s' D,Tr ad H hd (ad'++[D]) (H'++[.list acc]) hd'->FS cc c loc (H'++[.list acc]) (ad'++[D]) hd' s'->QL acc H'->Qr (.ref D) s')
  (he:KE cc c loc H ad hd E Er):
  Vy (Vt cc.prog cc.w) A (newList []) (fun acc s₃=>Vy (Vt cc.prog cc.w) A (Yi csc c.env.globals (pR c csc) [] c.env.qual none .none (some c.env)) (fun cenv s₄=>
   Yj (Vt cc.prog cc.w) A (.compStart (.ListComp elt [⟨.Name x px,iter,ifs,0⟩] csc pos) 0 (.ref I) acc {cenv with scope:=relabel csc c.env}) (compPost (Vt cc.prog cc.w) A Er none Qr acc cenv.locals) s₄) Er s₃) Er s:=by
 refine pX (Qc:=fun acc C=>compPost (Vt cc.prog cc.w) A Er none Qr acc C) S F gI nI IL IG it0 sd0 W fun oL C D oD s' dL back K=>?_;exact zb O W hlen (fun _ _=>eo.comp S) hxn (ZF hxl)
  (fun oI oD v=>hT (jo c csc (pR c csc) oL C I D oI oD) (ao.comp dL) (eo.comp S) relabel_rel rfl rfl rfl v)
  (fun oI oD v=>hE (jo c csc (pR c csc) oL C I D oI oD) (ao.comp dL) (eo.comp S) relabel_rel rfl rfl rfl v)
  sd hsd (BW back fun acc H' ad' hd' s'=>hq acc H' ad' hd' s' D) (uO ao tp back he) K d
set_option tactic.hygienic true in
def zP(O:aO cc)(eo:ay c)(ao:bx c A k)(tp:aR c A)(S:jf c csc)(hxn:cc.T.nm[n]?=some x)(hxl:csc.names.lookup x=some .local)
  (hr:c.env.scope.names.lookup r=some .globalImplicit) (hrr:r=("range":Str)) (hm:aK m=true) (hM:aC cc c A loc (eval m c.env) DM) {DE:AV->ja}
  (hE:∀c':FC,bx c' A k->ay c'->aN csc c'.env.scope->c'.cn=c.cn->c'.cl=c.cl->c'.hn=c.hn->∀v,aC cc c' A [(n,v)] (eval elt c'.env) (DE v)):
  aC cc c A loc (eval (.ListComp elt [⟨.Name x px,.Call (.Name r rp) [m] [] cp,[],0⟩] csc pos) c.env) (fun H Q E=>DM H (fun v H1=>∃mm,v=.int mm/\c.hn=true/\0<=mm/\mm<=100/\bt (fun _=>True) (fun _ H2 Q2=>Q2 true H2) (fun u H2 Q2=>DE u H2 Q2 E) (bH mm) [] H1 (fun vs H2=>Q (.ref H2.length) (H2++[.list vs]))) E):=by
 intro H ad hd s Q E Qr Er F d q e;rw[eval_ListComp];have hfree:∀y,(y,Wp)∈csc.names->∃a,c.env.cells.lookup y=some a:=fun y hy=>by
  refine o1 (S.free y hy) fun j h1 h2=>?_;refine o2 (F.cells j y h1 h2) fun a _ e1 _=>?_;exact i4 a e1
 refine Y_ (use:=none) rfl (fun _=>rfl) (lA hfree) S.kind S.names ?_;show Vy _ A (eval (.Call (.Name r rp) [m] [] cp) c.env) _ Er s;show Vy _ A (do Xs cp (←eval (.Name r rp) c.env) [] (Wh cp (V1 [m] c.env)) []) _ Er s;refine kY (O.bi ("range",.type "range") (by simp)) fun b1 b2=>?_;subst hrr;refine Vi (mi O eo hr b1 b2 (by decide) F ?_);refine bD (P:=fun _=>True) (by simp[hm]) lJ ?_;have hL:=kz (pos:=cp) hm hM (mZ (pos:=cp))
 let P:AV->AH->Prop:=fun v H1=>∃mm,v=.int mm/\c.hn=true/\0<=mm/\mm<=100/\bt (fun _=>True) (fun _ H2 Q2=>Q2 true H2) (fun u H2 Q2=>DE u H2 Q2 E) (bH mm) [] H1 (fun vs H2=>Q (.ref H2.length) (H2++[.list vs]))
 refine hL H ad hd s (fun vs H1=>Vr (motive:=fun _=>Prop) vs False fun v r=>Vr (motive:=fun _=>Prop) r (P v H1) fun _ _=>False) E _ Er F d (fun vs H1 ad1 hd1 s1 xs T1 F1 r1 d1=>⟨trivial,?_⟩) e;cases r1 with
 |nil=>exact d1.elim
 |cons r2 r3=>
 rename_i v0 u0 l0 l1;cases r3 with
 |cons _ _=>exact d1.elim
 |nil=>
 obtain⟨mm,rfl,d1⟩:=d1;refine cX u0 r2 fun t=>?_;refine QK d1 fun d2 d3 d4 d5=>?_;have hh:A.handled=none:=by rw[ao.hnd,ao.hn d2];rfl
 refine call_range_1 ?_;have hsm:Builtin.Range.small 0 mm 1=true:=by
  unfold Builtin.Range.small;have e1:Yw 0 mm 1=mm:=by rw[rangeSize_nat];omega
  rw[e1];have f0:∀x:Int,0<=x->x<=100->Zz x=true:=fun x h0 h1=>by
   unfold Zz;simp;exact Sd h0 h1
  rw[f0 0 Se Sf,f0 mm d3 d4,f0 1 Sg Sh];have:mm+(1-1)=mm:=by exact Si
  simp[f0 mm d3 d4]
 refine wpAny_pyIter_range (V_ _ rfl) hsm ?_;have hsz:Yw 0 mm 1=mm:=by rw[rangeSize_nat];omega
 have hl100:(bH mm).length<=100:=by
  have:(bH mm).length=mm.toNat:=by simp[bH]
  omega
 have keep:∀(o1 o2:Obj) b o,s1.heap.get? b=some o->((s1.heap.push o1).push o2).get? b=some o:=fun o1 o2 b o z=>Vx _ (Vx _ z);have F2:=F1.grow (k:=s1.toks+1+1) (keep {cls:=.type "range",data:=.fields #[.int 0 s1.toks,.int mm t,.int 1 (s1.toks+1)]} {cls:=.type "range_iterator",data:=.fields #[rawInt 0,rawInt (Yw 0 mm 1),rawInt 1]});have big:∀{b o},s1.heap.get? b=some o->b≠(s1.heap.push {cls:=.type "range",data:=.fields #[.int 0 s1.toks,.int mm t,.int 1 (s1.toks+1)]}).objs.size:=fun{b o} z q=>by
  have:=Wb z;rw[q,WS]at this;exact absurd this (W8.mpr (Nat.le_succ _))
 refine uP (items:=bH mm) (DT:=fun _ H2 Q2 _=>Q2 true H2) (DE:=DE) O eo ao tp S F2 (V_ _ rfl) (fun z=>?_) (fun z=>?_) ?_ (ItO:=yn mm) (i4 (#[]) (by rw[hsz];simp)) trivial (z7 d3 hh)
  hl100 hxn hxl (fun _ _ _ _ _ _ _ _=>tV) hE (fun _=>True) (fun _ _ _ _ _ _ _ _ _=>trivial) d5 (fun acc H' ad' hd' s' D T' F' q'=>?_) (fun H' ad' hd' s' ea T' F' fl e'=>e _ _ _ _ _ (T1.trans T') F' fl e')
 ·refine o8 (F1.hr.live z) fun o z'=>?_;exact big z' rfl
 ·refine QM F1.ns fun m o _ _ z' _ _=>?_;exact big z' z
 ·induction z:cc.G.get? (s1.heap.push {cls:=.type "range",data:=.fields #[.int 0 s1.toks,.int mm t,.int 1 (s1.toks+1)]}).objs.size using Option.casesOn with
  |none=>rfl
  |some o=>exact absurd rfl (big (F1.hr.keep _ _ z))
 ·refine q (.ref H'.length) _ _ _ _ _ (T1.trans T') F' (i0 D ?_ rfl) q';have hl:=F'.hr.len;rw[VH,VH]at hl;simp only[W9]at hl;have:H'.length=ad'.length:=by exact PI hl
  rw[this,Vm (VB _),X_];rfl
def qP(h:dN src=true):∀x,foldedSetIterable src env x=pure x:=by
 intro x;induction src using Expr.casesOn<;>first|rfl|injection h
def iq{j:Nat}(F:FS cc c loc H ad hd s)(e1:H[j]?=some (.list xs))(e2:ad[j]?=some ax)
  (q:∀I oI s',FS cc c loc H ad hd s'->s'.heap.get? I=some oI->I∉tot cc c.fr hd ad->c.env.locals≠I->cc.G.get? I=none->jO ax 0 oI->ax≠I->Qr (.ref I) s'):
  Vy (Vt cc.prog cc.w) A (pyIter (.ref ax)) Qr Er s:=by
 refine RE (F.hr.obj _ _ e1) fun a o a1 a2 vs a3 n a4 a5=>?_;rw[e2]at a1;(injection a1 with a1;subst a1);refine wpAny_pyIter_list (i7 o a2 a3 n a4) ?_;have keep:∀(o1:Obj) b o,s.heap.get? b=some o->(s.heap.push o1).get? b=some o:=fun o1 b o z=>Vx _ z;have F2:=F.grow (k:=s.toks) (keep {cls:=.type "list_iterator",data:=.fields #[.ref ax,.int 0 0]});have big:∀{b o},s.heap.get? b=some o->b≠s.heap.objs.size:=fun{b o} z q=>by
  have:=Wb z;rw[q]at this;exact WQ _ this
 refine q s.heap.objs.size _ _ F2 (V_ _ rfl) (fun z=>?_) (fun z=>?_) ?_ ⟨rfl,rfl⟩ (big a2)
 ·refine o8 (F.hr.live z) fun o z'=>?_;exact big z' rfl
 ·refine QM F.ns fun m o _ _ z' _ _=>?_;exact big z' z
 ·induction z:cc.G.get? s.heap.objs.size using Option.casesOn with
  |none=>rfl
  |some o=>exact absurd rfl (big (F.hr.keep _ _ z))
def sj{j:Nat}:∀(H:AH)(ad:List Addr)(hd:Hid)(H':AH)(ad':List Addr)(hd':Hid),(H[j]?=some (AO.list xs)/\ad[j]?=some ax)->Tr ad H hd ad' H' hd'->H'[j]?=some (.list xs)->(H'[j]?=some (AO.list xs)/\ad'[j]?=some ax):=
 fun _ _ _ _ _ _ e t e'=>⟨e',aX t.ad e.2⟩
def qc(S:jf c csc)(F:FS cc c loc H ad hd s):∀y,(y,Wp)∈csc.names->∃a,c.env.cells.lookup y=some a:=fun y hy=>by
 refine o1 (S.free y hy) fun j h1 h2=>?_;refine o2 (F.cells j y h1 h2) fun a _ e1 _=>?_;exact⟨a,e1⟩
def vm{D:Addr}(F':FS cc c loc (H'++[.list acc]) (ad'++[D]) hd' s'):(ad'++[D])[H'.length]?=some D:=by
 have hl:=F'.hr.len;rw[VH,VH]at hl;simp only[W9]at hl;have:H'.length=ad'.length:=by exact PI hl
 rw[this,Vm (VB _),X_];rfl
set_option tactic.hygienic true in
def zQ(O:aO cc)(eo:ay c)(ao:bx c A k)(tp:aR c A){csc:VZ}{n:Nat}(S:jf c csc)(hxn:cc.T.nm[n]?=some x)(hxl:csc.names.lookup x=some .local)
  (hset:dN src=true) {DM:ja} (hM:aC cc c A loc (eval src c.env) DM) {DE:AV->ja} {DT:AV->vW}
  (hT:∀c':FC,bx c' A k->ay c'->aN csc c'.env.scope->c'.cn=c.cn->c'.cl=c.cl->c'.hn=c.hn->∀v,bZ cc c' A [(n,v)] (VM t c'.env (eval t c'.env)) (DT v))
  (hE:∀c':FC,bx c' A k->ay c'->aN csc c'.env.scope->c'.cn=c.cn->c'.cl=c.cl->c'.hn=c.hn->∀v,aC cc c' A [(n,v)] (eval elt c'.env) (DE v)):
  aC cc c A loc (eval (.ListComp elt [⟨.Name x px,src,[t],0⟩] csc pos) c.env) (fun H Q E=>DM H (fun v H1=>tm v H1 fun i xs=>c.hn=true/\xs.length<=100/\bt (fun H2=>H2[i]?=some (.list xs)) (fun u H2 Q2=>DT u H2 Q2 E) (fun u H2 Q2=>DE u H2 Q2 E) xs [] H1 (fun vs H2=>Q (.ref H2.length) (H2++[.list vs]))) E):=by
 intro H ad hd s Q E Qr Er F d q e;rw[eval_ListComp];refine Y_ (use:=none) rfl (qP hset) (lA (qc S F)) S.kind S.names ?_;show Vy _ A (eval src c.env) _ Er s;refine hM H ad hd s _ E _ Er F d (fun v H1 ad1 hd1 s1 u T1 F1 r1 d1=>?_) e;obtain⟨i,xs,rfl,hi,d1⟩:=d1;refine qX d1 fun d2 d3 d4=>?_;refine jb u r1 fun ax ea=>?_;have hh:A.handled=none:=by rw[ao.hnd,ao.hn d2];rfl
 refine iq F1 hi ea fun I oI s2 F2 gI nI IL IG it0 hne=>?_;refine uP (items:=xs) (DT:=DT) (DE:=DE) O eo ao tp S F2 gI nI IL IG it0 ⟨hi,ea⟩ (qV hh hne) d3 hxn hxl (fun c' a1 a2 a3 a4 a5 a6 v=>tW (hT c' a1 a2 a3 a4 a5 a6 v)) hE
  (fun H2=>H2[i]?=some (.list xs)) sj d4 (fun acc H' ad' hd' s' D T' F' q'=>?_) (fun H' ad' hd' s' ea T' F' fl e'=>e _ _ _ _ _ (T1.trans T') F' fl e')
 exact q (.ref H'.length) _ _ _ _ _ (T1.trans T') F' (i0 D (vm F') rfl) q'
def kL(O:aO cc)(eo:ay c)(ao:bx c A k){xs:List (Str×Pos)}
  (F1:FS cc c loc H ad hd s)(nm:aw (la cc c) is (xs.map (·.1)))(it:IsTup s.heap t items)(r:aw (VR ad) vs items.toList)(hl:vs.length=is.length)
  (q:∀s',FS cc c (m8 loc (is.zip vs)) H ad hd s'->QU () s'):Vy (Vt cc.prog cc.w) A (assign (.Tuple (xs.map fun p=>WV p.1 p.2) kk tp) c.env (.ref t)) QU Er s:=by
 refine qX (dq (env:=c.env) xs) fun a1 a2 a3=>?_;rw[kK];refine Vi (VY ?_);unfold unpack;have hsz:(YY (xs.map fun p=>WV p.1 p.2) c.env).length=items.size:=by
  rw[a2,←Wu,←r.length,hl,nm.length,VI]
 rw[a1,a3,hsz];refine Vi (V6 (kA (F1.chain ao) it fun h' hk=>?_));have F2:=F1.grow (k:=s.toks) hk;have gen:∀(ys:List (Str×Pos)) (js:List Nat),aw (la cc c) js (ys.map (·.1))->∀(ws:List AV) (us:List Vq) (loc0:aM) (s0:Vo) (QU:Unit->Vo->Prop),FS cc c loc0 H ad hd s0->aw (VR ad) ws us->ws.length=js.length->
   (∀s',FS cc c (m8 loc0 (js.zip ws)) H ad hd s'->QU () s')->Vy (Vt cc.prog cc.w) A (WT (ys.map (fun p=>assign (.Name p.1 p.2) c.env)) us) QU Er s0:=by
  intro ys;induction ys with
  |nil=>
   intro js hn ws us loc0 s0 QU F0 r0 hl0 q0;cases hn;have:WT [] us=pure ():=by induction us using Vr<;>rfl
   show Vy _ A (WT [] us) QU Er s0;rw[this];exact Vp (q0 _ F0)
  |cons y ys ih=>
   intro js hn ws us loc0 s0 QU F0 r0 hl0 q0;cases hn with
   |cons n1 n2=>
    cases r0 with
    |nil=>injection hl0
    |cons r1 r2=>
     refine Vi (V6 (wpAny_assign_Name (df O eo F0 n1.nm n1.lo r1 fun s' F'=>?_)));exact ih _ n2 _ _ _ _ _ F' r2 (YT hl0) q0
 exact gen xs is nm vs items.toList loc _ _ F2 r hl q
def jk(O:aO cc)(eo:ay c)(ao:bx c A k){x y:Str}{kk n1 n2 j:Nat}
  (F1:FS cc c loc H ad hd s)(hx:la cc c n1 x)(hy:la cc c n2 y)(ht:H[j]?=some (.tup [a,b]))(et:ad[j]?=some t)
  (q:∀s',FS cc c (st n2 b (st n1 a loc)) H ad hd s'->QU () s'):Vy (Vt cc.prog cc.w) A (assign (.Tuple [.Name x px,.Name y py] kk tp) c.env (.ref t)) QU Er s:=by
 refine o2 (F1.tup et ht) fun us n e2 r=>?_;exact kL (xs:=[(x,px),(y,py)]) (is:=[n1,n2]) (vs:=[a,b]) O eo ao F1 (.cons hx (.cons hy .nil)) (mL e2) r rfl q
def oH(g:s.heap.get? I=some oI)(ht:jO ax i oI)(q:QU () s):
  Vy (Vt cc.prog cc.w) A (letOwnedTupleGo (.Tuple es kk tp) (.ref I) v) QU Er s:=by
 unfold letOwnedTupleGo;induction v using YO with
 |ref a=>
  refine Vi (XK g ?_);rw[ht.1,ht.2];simp;exact Vp q
 |_=>exact Vp q
end
section
variable{cc:CC}{c:FC}{A:VN}{Γ:cM}{k:Nat}{loc loc1:aM}{sc:VZ}{H:AH}{ad:List Addr}{hd:Hid}{s:Vo}{h h':Heap}{fr:List (Addr×Obj)}
set_option tactic.hygienic true in
def wo{csc:VZ}{cl:List (Str×Addr)}{oL:Obj}{C I D:Addr}{ax:Addr}{side:AH->List Addr->Prop}{items:List AV}{elt iter:Expr}{x y:Str}{px py tp pos:Pos}{kk n n2:Nat}
  {R:Xu->Vo->Prop} {DE:AV->AV->ja} {QL:List AV->AH->Prop} {E:AH->Prop} {H0:AH} {ad0:List Addr} {hdd:Hid}
  (O:aO cc) (W:Ka cc A I (jO ax) side items) (hlen:items.length<=100) (eo:∀oI oD,ay (jo c csc cl oL C I D oI oD)) (hx:la cc ⟨XB csc cl C c.env,[],[],[],true,none⟩ n x) (hy:la cc ⟨XB csc cl C c.env,[],[],[],true,none⟩ n2 y) (hne:n≠n2) (ao:∀oI oD,bx (jo c csc cl oL C I D oI oD) A k)
  (hE:∀oI oD v w,aC cc (jo c csc cl oL C I D oI oD) A [(n2,w),(n,v)] (eval elt (XB csc cl C c.env)) (DE v w))
  (sd:AH->Prop) (hsd:∀H ad hd H' ad' hd',side H ad->Tr ad H hd ad' H' hd'->sd H'->side H' ad')
  (fin:∀acc H ad hd oI oD s,ug cc c csc cl oL C I D (jO ax) side H0 ad0 hdd items.length acc H ad hd oI oD s->QL acc H->∀h',Wa I s.heap h'->R (.ok .next) {s with heap:=h'})
  (err:∀oI oD loc H ad hd s ea,FS cc (jo c csc cl oL C I D oI oD) loc H ad hd s->Tr ad0 H0 hdd ad H hd->yM cc c.hn (jo c csc cl oL C I D oI oD).fr (some C) hd ad ea s.heap->E H->Y8 (Vt cc.prog cc.w) A (XB csc cl C c.env) (fun e s'=>R (.error e) s') (.ref ea) s)
  {H:AH} {ad:List Addr} {hd:Hid} {oI oD:Obj} {s:Vo} (K:ug cc c csc cl oL C I D (jO ax) side H0 ad0 hdd 0 [] H ad hd oI oD s)
  (d:bt sd (fun _ H Q=>Q true H) (fun u H Q=>mT u H (fun a b=>DE a b H Q E)) items [] H QL):
  Yj (Vt cc.prog cc.w) A (.compLoop (.ListComp elt [⟨.Tuple [.Name x px,.Name y py] kk tp,iter,[],0⟩] csc pos) 0 (.ref I) (.ref D) (XB csc cl C c.env)) R s:=by
 refine LCp.codeAny_compLoop_pair (TZ cc c csc cl oL C I D (jO ax) side H0 ad0 hdd items fun l acc H=>bt sd (fun _ H Q=>Q true H) (fun u H Q=>mT u H (fun a b=>DE a b H Q E)) l acc H QL) ?_ (items.length)
  ⟨0,[],H,ad,hd,oI,oD,rfl,Wy _,VB _,K,d⟩
 rintro m s ⟨i,acc,H,ad,hd,oI,oD,rfl,hi,hai,K,d⟩;have hIfr:(I:Addr)∈(jo c csc cl oL C I D oI oD).fr.map (·.1):=Vl ..;refine o8 (K.fs.hr.frm (I,oI) (Vl ..)) fun slI gI=>?_;refine o8 (K.fs.hr.frm (D,oD) (Vj _ (Vl ..))) fun slD gD=>?_;have nd0:=VX.mp K.fs.hr.nodup;have nd1:=(VX.mp nd0.2.1).1;have nd2:=VQ.mp (show((I:Addr)::D::c.env.locals::c.fr.map (·.1)).Nodup from nd1);have nd3:=VQ.mp nd2.2;induction hit:items[i]? using Option.casesOn with
 |none=>
  have hie:i=items.length:=by
   have:=YN.mp hit;exact DX hi this
  subst hie;rw[Z8]at d;refine W.done H ad hd _ s _ _ _ K.fs.hr K.side gI (W.slot _ _ _ K.it) fun h' xb=>?_;exact fin acc H ad hd oI oD s K d h' xb
 |some v=>
  have hlt:=(Vn.mp hit).1;have hdrop:items.drop i=v::items.drop (i+1):=by rw[WK hlt];congr 1;exact(Vn.mp hit).2
  rw[hdrop]at d;rw[jr]at d;refine W.item i v H ad hd _ s _ _ _ hit K.fs.hr K.side gI (W.slot _ _ _ K.it) fun u h1 tk oI' r hI' it' xb=>?_;have F1:FS cc (jo c csc cl oL C I D oI' oD) [] H ad hd {s with heap:=h1,toks:=tk}:=by
   refine K.fs.reFr (fr':=(I,oI')::(D,oD)::(c.env.locals,oL)::c.fr) rfl hIfr xb fun p hp=>?_;rcases Vv.mp hp with rfl|hp
   ·exact i4 oI'.slots hI'
   ·refine o8 (K.fs.hr.frm p (Vj _ hp)) fun sl e=>?_;exact i4 sl (xb _ _ (fun z=>nd2.1 (z▸Vz (f:=Wr) hp)) e)
  refine oH hI' it' ?_;rw[if_pos rfl]at d;obtain⟨jj,va,vb,rfl,hjj,d⟩:=d;refine jb u r fun ta eta=>?_;refine jk (c:=jo c csc cl oL C I D oI' oD) O (eo _ _) (ao _ _) F1 ⟨hx.nm,hx.lo⟩ ⟨hy.nm,hy.lo⟩ hjj eta fun s2 F2=>?_
  ·refine hE oI' oD va vb H ad hd s2 _ E _ _ F2 d (fun w H4 ad4 hd4 s4 y T4 F4 r4 d4=>?_) (fun H4 ad4 hd4 s4 ea T4 F4 fl e4=>err _ _ _ _ _ _ _ _ F4 (K.tr.trans T4) fl e4);refine RG K.acc fun vs o1 nn o2 o3=>?_;refine o8 (F4.hr.frm (D,oD) (Vj _ (Vl ..))) fun slD' gD'=>?_;have hsz:vs.size<=sizeLine:=by
    have e1:acc.length=vs.size:=o3.length;have e2:sizeLine≥100:=by decide
    have e3:acc.length<=100:=by exact OY hlt hlen hai
    rw[←e1];exact V4 e3 e2
   refine wpAny_list_append (items:=vs) (i7 _ gD' o1 nn o2) (fun h5 hl5 sb5=>?_) hsz;refine TA hl5 fun oD' g5 c5 n5 dd5=>?_;have F5:FS cc (jo c csc cl oL C I D oI' oD') [(n2,vb),(n,va)] H4 ad4 hd4 {s4 with heap:=h5}:=by
    refine F4.reFr (a:=D) (tk:=s4.toks) (fr':=(I,oI')::(D,oD')::(c.env.locals,oL)::c.fr) rfl (Vj _ (Vl ..)) sb5.extBut fun p hp=>?_;rcases Vv.mp hp with rfl|hp
    ·refine o8 (F4.hr.frm (I,oI') (Vl ..)) fun sl e=>?_;exact i4 sl (sb5.extBut _ _ (fun z=>nd2.1 (z▸Vl ..)) e)
    ·rcases Vv.mp hp with rfl|hp
     ·exact i4 oD'.slots g5
     ·refine o8 (F4.hr.frm p (Vj _ (Vj _ hp))) fun sl e=>?_;exact i4 sl (sb5.extBut _ _ (fun z=>nd3.1 (z▸Vz (f:=Wr) hp)) e)
   refine⟨items.length-(i+1),by exact DY hlt,i+1,acc++[w],H4,ad4,hd4,oI',oD',rfl,hlt,by rw[VH,W9];exact Il hai,⟨F5.forget,it',(i0 (vs.push y) ⟨c5,n5,dd5⟩ ?_),hsd _ _ _ _ _ _ K.side T4 d4.1,K.tr.trans T4⟩,d4.2⟩;rw[ZL];exact(o3.mono fun _ _ z=>z.mono T4.ad).append (.cons r4 .nil)
end
section
variable{cc:CC}{c:FC}{A:VN}{Γ:cM}{k:Nat}{loc loc1:aM}{sc:VZ}{H:AH}{ad:List Addr}{hd:Hid}{s:Vo}{h h':Heap}{fr:List (Addr×Obj)}
variable{D:ja}
def za(O:aO cc)(eo:ay c){C I D:Addr}(back:xo cc c loc ad oL)
  (hx:la cc c z x)
  (hq:∀acc H' ad' hd' s',Tr ad H hd (ad'++[D]) (H'++[.list acc]) hd'->FS cc c (st z (.ref H'.length) loc) (H'++[.list acc]) (ad'++[D]) hd' s'->QL acc H'->Q .none s'):
  Kn cc c csc oL C I D ItO side H ad hd n QL (compPost (Vt cc.prog cc.w) A Er (some (assign (.Name x px) c.env)) Q (.ref D) C):=by
 intro acc H' ad' hd' oI oD s' K ql h' xb;refine o1 (K.fs.outC back K.tr.ad) fun oC nsC F1=>?_;have offI:=K.fs.hr.offFr;have inI:I∈tot cc (jo c csc (pR c csc) oL C I D oI oD).fr hd' ad':=Vh _ (Vk _ (Vl ..));have IC:I≠C:=fun z=>K.fs.own (by show C∈_;rw[←z];exact inI);have IL:c.env.locals≠I:=fun z=>offI (by rw[←z];exact Vh _ (Vk _ (Vj _ (Vl ..))));have F2:=F1.but (a:=I) (tk:=s'.toks) (fun z=>by
  rcases Vs.mp z with z|z
  ·exact offI (Vk _ z)
  ·rcases Vs.mp z with z|z
   ·rcases Vv.mp z with z|z
    ·exact offI (Vh _ (Vk _ (by rw[show I=D from z];exact Vl ..)))
    ·rcases Vv.mp z with z|z
     ·exact IC z
     ·exact offI (Vh _ (Vk _ (Vj _ (Vj _ z))))
   ·exact offI (Vh _ (Vh _ z))) IL (K.fs.hr.new I inI) xb
 refine RG K.acc fun vs o1 nn o2 o3=>?_;have F3:=F2.frToAd (ao:=.list acc) fun sl=>(i0 vs ⟨o1,nn,o2⟩ (o3.mono fun _ _ r=>r.mono (VA ..)))
 show Vy _ A (assign (.Name x px) c.env (.ref D)) _ Er _;refine wpAny_assign_Name (df (c:={c with fr:=(C,oC)::c.fr}) (v:=.ref H'.length) O ⟨eo.kind,eo.globals,eo.builtins⟩ F3 hx.nm hx.lo (i0 D (vm F3) rfl) fun s2 F4=>?_);refine o8 (F4.hr.frm (C,oC) (Vl ..)) fun sl gC=>?_;refine o8 (nsC _ _ gC) fun m nC=>?_;refine i0 m nC (fun h2 sb=>?_);have F5:FS cc c (st z (.ref H'.length) loc) (H'++[.list acc]) (ad'++[D]) hd' {s2 with heap:=h2}:=F4.dropFr (tk:=s2.toks) sb.extBut;exact hq acc H' ad' hd' _ ⟨K.tr.ad.trans (VA ..),K.tr.H.trans (.snoc _ _),K.tr.hd⟩ F5 ql
set_option tactic.hygienic true in
def w6(O:aO cc)(eo:ay c)(ao:bx c A k)(tp:aR c A){px py tpp pw pos spos:Pos}(S:jf c csc)
  (hxn:cc.T.nm[n]?=some x) (hxl:csc.names.lookup x=some .local) (hyn:cc.T.nm[n2]?=some y) (hyl:csc.names.lookup y=some .local) (hz:la cc c z w)
  (hset:dN src=true) (hsw:swapsWith (.ListComp elt [⟨.Tuple [.Name x px,.Name y py] kk tpp,src,[],0⟩] csc pos) (some (.Name w pw)) spos.line c.env=pure true)
  {DM:aM->ja} (hM:∀loc,aC cc c A loc (eval src c.env) (DM loc)) {DE:AV->AV->ja}
  (hE:∀c':FC,bx c' A k->ay c'->aN csc c'.env.scope->c'.cn=c.cn->c'.cl=c.cl->c'.hn=c.hn->∀u v,aC cc c' A [(n2,v),(n,u)] (eval elt c'.env) (DE u v)):
  bc cc c A (exec (.Assign [.Name w pw] (.ListComp elt [⟨.Tuple [.Name x px,.Name y py] kk tpp,src,[],0⟩] csc pos) spos) c.env) (fun loc H Q E=>DM loc H (fun v H1=>tm v H1 fun i xs=>c.hn=true/\xs.length<=100/\n≠n2/\bt (fun H2=>H2[i]?=some (.list xs)) (fun _ H2 Q2=>Q2 true H2) (fun u H2 Q2=>mT u H2 (fun a b=>DE a b H2 Q2 (E loc))) xs [] H1 (fun vs H2=>Q .next (st z (.ref H2.length) loc) (H2++[.list vs]))) (E loc)):=by
 intro loc H ad hd s Q E Qr Er F d po q e;rw[exec_Assign_Name_used _ _ _ _ hsw];refine Vi (VY (Vi ?_));show Vy _ A (do let _←comprehension (.ListComp elt [⟨.Tuple [.Name x px,.Name y py] kk tpp,src,[],0⟩] csc pos) csc c.env _ (newList []) false (eval src c.env) (some (assign (.Name w pw) c.env))) _ _ s;refine Vi (W3 (Y_ (use:=some (assign (.Name w pw) c.env)) (Q:=fun _ s'=>Qr .next s') rfl (qP hset) (lA (qc S F)) S.kind S.names ?_) (fun _ s' hq=>Vp (Vp hq)) fun _ _ e=>e);refine hM loc H ad hd s _ (E loc) _ Er F d (fun v H1 ad1 hd1 s1 u T1 F1 r1 d1=>?_) (KS.ke e loc);obtain⟨i,xs,rfl,hi,d1⟩:=d1;refine QK d1 fun d2 d3 dn d4=>?_;refine jb u r1 fun ax ea=>?_;have hh:A.handled=none:=by rw[ao.hnd,ao.hn d2];rfl
 refine iq F1 hi ea fun I oI s2 F2 gI nI IL IG it0 hne=>?_;have W:=qV (cc:=cc) (j:=i) (src:=xs) hh hne;refine pX (Qc:=fun acc C=>compPost (Vt cc.prog cc.w) A Er (some (assign (.Name w pw) c.env)) (fun _ s'=>Qr .next s') acc C) S F2 gI nI IL IG it0 ⟨hi,ea⟩ W fun oL C D oD s' dL back K=>?_;exact wo O W d3 (fun _ _=>eo.comp S) ⟨hxn,ZF hxl⟩ ⟨hyn,ZF hyl⟩ dn (fun _ _=>ao.comp dL)
  (fun oI oD a b=>hE (jo c csc (pR c csc) oL C I D oI oD) (ao.comp dL) (eo.comp S) relabel_rel rfl rfl rfl a b)
  (fun H2=>H2[i]?=some (.list xs)) sj (za O eo back hz fun acc H' ad' hd' s' T' F' q'=>KF.next q (T1.trans T') F' q')
  (uO ao tp back fun H' ad' hd' s' ea T' F' fl e'=>e loc _ _ _ _ _ (T1.trans T') F' fl e') K d4
end
section
variable{cc:CC}{c:FC}{A:VN}{Γ:cM}{k:Nat}{loc loc1:aM}{sc:VZ}{H:AH}{ad:List Addr}{hd:Hid}{s:Vo}{h h':Heap}{fr:List (Addr×Obj)}
variable{DB:sx}
def bx.addFr(ao:bx c A k):bx {c with fr:=(a,o)::c.fr} A k:=by
 refine o1 ao.frames fun envs e1 e2=>?_;refine⟨ao.room,ao.units,(i0 envs e1 (fun e he=>?_)),ao.hnd,ao.hn⟩;refine JV (e2 e he) fun k1 a k2 k3=>?_;refine uX k1 a k2 ?_;rcases k3 with rfl|⟨o,m,d⟩
 ·exact .inl rfl
 ·exact .inr (i0 o (Vj _ m) d)
inductive Km(cc:CC)(c:FC)(DB:sx)(xs:List AV)(i n n2:Nat)(I ax:Addr)(Q:QS)(H0:AH)(ad0:List Addr)(hd0:Hid)(m:Nat)(s:Vo):Prop
 |mk (j:Nat)(loc:aM)(H:AH)(ad:List Addr)(hd:Hid)(oI:Obj)(em:m=xs.length-j)(hj:j<=xs.length)(T:Tr ad0 H0 hd0 ad H hd)(F:FS cc {c with fr:=(I,oI)::c.fr} loc H ad hd s) (it:jO ax j oI)
   (sd:H[i]?=some (.list xs)/\ad[i]?=some ax) (d:rM i xs n n2 (fun loc1 H2 Q2=>DB loc1 H2 Q2 (fun _ _=>False)) (xs.drop j) loc H Q)
set_option tactic.hygienic true in
def zJ(O:aO cc)(eo:ay c)(ao:bx c A k){src:Expr}{x y:Str}{px py tp pos:Pos}{kk n n2:Nat}{body:List Stmt}(hx:la cc c n x)(hy:la cc c n2 y)(hset:dN src=true)
  {DM:aM->ja} (hM:∀loc,aC cc c A loc (eval src c.env) (DM loc)) (hb:∀I oI,bc cc {c with fr:=(I,oI)::c.fr} A (Wt body c.env) DB):
  bc cc c A (exec (.For (.Tuple [.Name x px,.Name y py] kk tp) src body [] pos) c.env) (fun loc H Q E=>DM loc H (fun v H1=>tm v H1 fun i xs=>c.hn=true/\xs.length<=100/\n≠n2/\rM i xs n n2 (fun loc1 H2 Q2=>DB loc1 H2 Q2 (fun _ _=>False)) xs loc H1 Q) (E loc)):=by
 intro loc H ad hd s Q E Qr Er F d po q e;refine wpAny_For (hM loc H ad hd s _ (E loc) _ Er F d (fun v H1 ad1 hd1 s1 u T1 F1 r1 d1=>?_) (KS.ke e loc)) (qP hset);obtain⟨i,xs,rfl,hi,d1⟩:=d1;refine QK d1 fun d2 d3 dn d4=>?_;refine jb u r1 fun ax ea=>?_;have hh:A.handled=none:=by rw[ao.hnd,ao.hn d2];rfl
 refine iq F1 hi ea fun I oI s2 F2 gI nI IL IG it0 hne=>?_;have W:=qV (cc:=cc) (j:=i) (src:=xs) hh hne;refine codeAny_forLoop_any (Km cc c DB xs i n n2 I ax Q H ad hd) ?_ xs.length ⟨0,loc,H1,ad1,hd1,oI,rfl,Wy _,T1,F2.addFr nI IL IG gI,it0,⟨hi,ea⟩,d4⟩;rintro m s3 ⟨j,loc',H',ad',hd',oI,rfl,hj,T',F',it',sd',d'⟩;refine o8 (F'.hr.frm (I,oI) (Vl ..)) fun slI gI'=>?_;induction hit:xs[j]? using Option.casesOn with
 |none=>
  have hje:j=xs.length:=by
   have:=YN.mp hit;exact DX hj this
  subst hje;rw[Z8]at d';refine W.done H' ad' hd' _ s3 _ _ _ F'.hr sd' gI' (W.slot _ _ _ it') fun h' xb=>?_;exact Xe (KF.next q T' (F'.dropFr (tk:=s3.toks) xb) d')
 |some v=>
  have hlt:=(Vn.mp hit).1;have hdrop:xs.drop j=v::xs.drop (j+1):=by rw[WK hlt];congr 1;exact(Vn.mp hit).2
  rw[hdrop]at d';change mT v H' _ at d';refine W.item j v H' ad' hd' _ s3 _ _ _ hit F'.hr sd' gI' (W.slot _ _ _ it') fun u h1 tk oI' r hI' it2 xb=>?_;have nd0:=VX.mp F'.hr.nodup;have nd2:=VQ.mp (show((I:Addr)::c.fr.map (·.1)).Nodup from(VX.mp nd0.2.1).1);have F3:FS cc {c with fr:=(I,oI')::c.fr} loc' H' ad' hd' {s3 with heap:=h1,toks:=tk}:=by
   refine F'.reFr (fr':=(I,oI')::c.fr) rfl (Vl ..) xb fun p hp=>?_;rcases Vv.mp hp with rfl|hp
   ·exact⟨oI'.slots,hI'⟩
   ·refine o8 (F'.hr.frm p (Vj _ hp)) fun sl e=>?_;exact⟨sl,xb _ _ (fun z=>nd2.1 (z▸Vz (f:=Wr) hp)) e⟩
  refine oH hI' it2 ?_;obtain⟨jj,va,vb,rfl,hjj,d'⟩:=d';refine jb u r fun ta eta=>?_;refine jk (c:={c with fr:=(I,oI')::c.fr}) O ⟨eo.kind,eo.globals,eo.builtins⟩ ao.addFr F3 ⟨hx.nm,hx.lo⟩ ⟨hy.nm,hy.lo⟩ hjj eta fun s4 F4=>?_;refine W3 (hb I oI' _ _ _ _ _ _ _ (fun f s5=>f=.next/\∃m,m<xs.length-j/\Km cc c DB xs i n n2 I ax Q H ad hd m s5) (fun _ _=>False) F4 d' ZK (fun fl l5 H5 ad5 hd5 s5 f T5 F5 r5 d5=>?_) (fun _ _ _ _ _ _ _ _ _ z=>z.elim)) (fun f s5 z=>?_) (fun _ _ z=>z.elim)
  ·obtain⟨rfl,d5⟩:=d5;subst r5;exact⟨rfl,xs.length-(j+1),by exact DY hlt,j+1,l5,H5,ad5,hd5,oI',rfl,hlt,T'.trans T5,F5,it2,⟨d5.1,aX T5.ad sd'.2⟩,d5.2⟩
  ·obtain⟨rfl,z⟩:=z;exact z
end
section
variable{cc:CC}{c:FC}{A:VN}{Γ:cM}{k:Nat}{loc loc1:aM}{sc:VZ}{H:AH}{ad:List Addr}{hd:Hid}{s:Vo}{h h':Heap}{fr:List (Addr×Obj)}
variable{D:ja}
def oP:Slot "bytearray" "__len__" "bytearray.__len__":=
 .of (owner:="bytearray") (n:="__len__") (by rw[V7,VO];kernel_rfl) (by decide+kernel) (by decide+kernel) (by decide+kernel)
  (by first|exact .inl (by decide+kernel)|exact .inr (by decide+kernel)) (by rw[Wk];kernel_rfl)
def sS:XX Zv "bytearray.__len__"=some VD.«bytearray.__len__»:=entryFor_of_fast (by kernel_rfl)
def uA(a:Vq):YZ "bytearray.__len__" ⟨[a],[]⟩:=by unfold YZ;kernel_rfl
def CA(ho:s.heap.get? a=some o)(hc:o.cls=.type "bytearray")(hdt:o.data=.bytearray b n)(hfit:(b.size:Int)<2^63)
  (q:Q (.int (b.size:Int) (s.toks+1)) {s with toks:=s.toks+1+1}):Vy (Vt cc.prog cc.w) A (call (.builtin "len") [.ref a]) Q E s:=by
 have hT:s.TypeIs (.ref a) "bytearray":=(i0 _ ho hc)
 refine call_len_slot (n:=(b.size:Int)) hT oP (fun Q' hq=>?_) Sj (Sk hfit) q;refine Zd oP hT sS ?_ (uA _);show Vy _ _ (do let b←Xg (.ref a);retInt b.size) _ _ s;unfold Xg YH;refine Vi (Vi (Vi (XK ho ?_)));rw[hdt];refine Vp (Vp ?_);exact Vi (wpAny_mkInt (Vp (i0 _ rfl hq)))
def qN(O:aO cc)(eo:ay c)(hf:c.env.scope.names.lookup f=some .globalImplicit)(h1:cc.mg f=none)(h2:cc.mb f=some fv)(hdb:(f==("__debug__":Str))=false)
  (hk:∀h,True->∃k,(k=XW\/k=Xz\/k=W')/\Looks (Vt cc.prog cc.w) h (ZG fv) k)(ha:aK a=true)
  (he:eval (.Call (.Name f fp) [a] [] pos) c.env=(do Xs pos (←eval (.Name f fp) c.env) [] (Wh pos (V1 [a] c.env)) []))
  (hA:aC cc c A loc (eval a c.env) DA){L:AV->AH->QE->Prop}
  (leaf:∀v x H ad hd s (Q:QE)(E:AH->Prop)(Qr:Vq->Vo->Prop)(Er:d_),FS cc c loc H ad hd s->VR ad v x->L v H Q->KV cc c loc H ad hd Q Qr->Vy (Vt cc.prog cc.w) A (call fv [x]) Qr Er s):
  aC cc c A loc (eval (.Call (.Name f fp) [a] [] pos) c.env) (fun H Q E=>DA H (fun v H1=>L v H1 Q) E):=by
 intro H ad hd s Q E Qr Er F d q e;rw[he];refine Vi (mi O eo hf h1 h2 hdb F ?_);refine bD (P:=fun _=>True) (by simp[ha]) hk ?_;have hL:=kz (pos:=pos) ha hA (mZ (pos:=pos));refine hL H ad hd s (fun vs H1=>match vs with|[v]=>L v H1 Q|_=>False) E _ Er F d (fun vs H1 ad1 hd1 s1 xs T1 F1 r1 d1=>⟨trivial,?_⟩) e;cases r1 with
 |nil=>exact d1.elim
 |cons r2 r3=>
  cases r3 with
  |cons _ _=>exact d1.elim
  |nil=>exact leaf _ _ _ _ _ _ _ E _ _ F1 r2 d1 (KV.tr q T1)
set_option tactic.hygienic true in
def CB:∀v x H ad hd s (Q:QE) (E:AH->Prop) (Qr:Vq->Vo->Prop) (Er:d_),FS cc c loc H ad hd s->VR ad v x->Cy v H Q->KV cc c loc H ad hd Q Qr->Vy (Vt cc.prog cc.w) A (call (.builtin "len") [x]) Qr Er s:=by
 intro v x H ad hd s Q E Qr Er F r d q;have fin:∀(n:Nat) (tk t:Tok),Q (.int (n:Int)) H->Qr (.int (n:Int) t) {s with toks:=tk}:=fun n tk t z=>q (.int (n:Int)) H ad hd _ _ (.refl _ _ _) F.toks (i4 t rfl) z;rcases d with⟨b,rfl,hz,d⟩|⟨j,xs,rfl,hx,hz,d⟩|⟨j,b,rfl,hx,hz,d⟩
 ·refine cX x r fun t=>?_;refine len_bytes (by rw[Wm];exact V4 hz (by decide)) ?_;rw[Wm];exact fin _ _ _ d
 ·refine jb x r fun a ea=>?_;refine RE (F.hr.obj _ _ hx) fun a' o a1 a2 vs a3 n a4 a5=>?_;rw[ea]at a1;(injection a1 with a1;subst a1);have hl:vs.size=xs.length:=by rw[a5.length];rfl
  have hb:xs.length<=4096:=hz;refine Calls.call_len_list (i7 o a2 a3 n a4) (by rw[hl];omega) ?_;rw[hl];exact fin _ _ _ d
 ·refine jb x r fun a ea=>?_;refine o6 (F.hr.obj _ _ hx) fun a' o a1 a2 a3=>?_;rw[ea]at a1;(injection a1 with a1;subst a1);have hb:b.length<=4096:=hz;have e3:o={cls:=.type "bytearray",data:=.bytearray b.toArray 0}:=a3;refine CA (o:=o) (b:=b.toArray) (n:=0) a2 (by rw[e3]) (by rw[e3]) (by rw[Wm];omega) ?_;rw[Wm];exact fin _ _ _ d
end
section
variable{cc:CC}{c:FC}{A:VN}{Γ:cM}{k:Nat}{loc loc1:aM}{sc:VZ}{H:AH}{ad:List Addr}{hd:Hid}{s:Vo}{h h':Heap}{fr:List (Addr×Obj)}
def sH(e:hV xs=some b)(h:aw (VR ad) xs vs):∃ns:List Int,IntsAre vs ns/\(∀n∈ns,0<=n/\n<256)/\byteArr ns=b.toArray:=by
 induction h generalizing b with
 |nil=>
  (injection e with e;subst e);exact i8 ([]) .nil (fun _ h=>(nomatch h)) rfl
 | @cons x u xs us r rs ih=>
  induction x using AV.casesOn with
  |int k=>
   rw[ry]at e
   split at e
   ·rename_i hk;refine o7 b (VK.mp e) fun b' e1=>?_;refine eD (ih e1) fun ns h1 h2 h3=>?_;refine cX u r fun t=>?_;refine i8 (k::ns) (.cons k t h1) (fun n hn=>?_) ?_
    ·rcases Vv.mp hn with rfl|hn
     ·exact hk
     ·exact h2 n hn
    ·unfold byteArr at h3⊢;have:ns.map (fun n=>n.toNat.toUInt8)=b':=by simpa using congrArg XZ h3
     rw[VL,this]
   ·injection e
  |_=>injection e
def tw(F:FS cc c loc H ad hd s)(hh:A.handled=none)(r:VR ad (.ref i) x)(hi:H[i]?=some (.list xs))(hb:hV xs=some b)
  (hz:xs.length<=fO) (q:∀s' t,FS cc c loc H ad hd s'->Qr (.bytes b.toArray t) s'):Vy (Vt cc.prog cc.w) A (call (.type "bytes") [x]) Qr Er s:=by
 refine jb x r fun a ea=>?_;refine RE (F.hr.obj _ _ hi) fun a' o a1 a2 vs a3 n a4 a5=>?_;rw[ea]at a1;(injection a1 with a1;subst a1);refine eD (sH hb a5) fun ns h1 h2 h3=>?_;refine call_bytes_ints (vs:=vs.toList) (i7 o a2 a3 n a4) h1 h2 (by rw[←a5.length];exact V4 hz (by decide)) hh fun h' t tk hk=>?_;rw[h3];exact q _ t (F.grow hk)
def zo(q:Qr (.bool true) s):Vy (Vt prog w) A (call (.builtin "isinstance") [.bytes y u,.type "bytes"]) Qr Er s:=
 call_isinstance (S:=fun _ R s=>R (.ok (.ret (.bool true))) s) (fun _ _ _ _ _ hs=>isinstance_outer (isinstance_nested_true rfl (VV _ _ _) rfl (by rw[Wk];kernel_rfl) hs) (by nofun)) q
def qG(hs:aK e=true)
  (h:Vy (Vt cc.prog cc.w) A (eval e c.env) (fun v s1=>Vy (Vt cc.prog cc.w) A (Wq (Wh pos (V1 r c.env))) (fun vs s2=>Qr (v::vs) s2) Er s1) Er s):
  Vy (Vt cc.prog cc.w) A (Wq (Wh pos (V1 (e::r) c.env))) Qr Er s:=by
 rw[cW hs];show Vy _ _ (do
  let v←eval e c.env
  let here←if false=true then do
    if←Yu v then
     rule "star.not-iterable";raiseError"TypeError" s!"Value after * must be an iterable, not {← typeNameOf v}"
    collect v
   else pure [v]
  return here++(←holding here (Wq (Wh pos (V1 r c.env))))) _ _ _
 refine Vi (W3 h (fun v s1 h1=>?_) fun _ _ x=>x);simp only[V0,if_false];exact Vi (Vp (Vi (V6 (W3 h1 (fun vs s2 h2=>Vp h2) fun _ _ x=>x))))
def pj(h:Qr [] s):Vy (Vt cc.prog cc.w) A (Wq (Wh pos (V1 [] c.env))) Qr Er s:=Vp h
def vD(O:aO cc)(eo:ay c)(hf:c.env.scope.names.lookup f=some .globalImplicit)(hff:f=("isinstance":Str))(hg:c.env.scope.names.lookup g=some .globalImplicit)(hgg:g=("bytes":Str))(ha:aK a=true)
  (hA:aC cc c A loc (eval a c.env) DA):
  aC cc c A loc (eval (.Call (.Name f fp) [a,.Name g gp] [] pos) c.env) (fun H Q E=>DA H (fun v H1=>(∃x,v=.bytes x)/\Q (.bool true) H1) E):=by
 intro H ad hd s Q E Qr Er F d q e;subst hff;subst hgg;show Vy _ A (do Xs pos (←eval (.Name _ fp) c.env) [] (Wh pos (V1 [a,.Name _ gp] c.env)) []) _ Er s;refine kY (O.bi ("isinstance",.builtin "isinstance") (by simp)) fun b1 b2=>?_;refine kY (O.bi ("bytes",.type "bytes") (by simp)) fun b3 b4=>?_;refine Vi (mi O eo hf b1 b2 (by decide) F ?_);refine bD (P:=fun _=>True) (by rw[XO,ha];rfl) mM (qG ha ?_);refine hA H ad hd s _ E _ Er F d (fun v H1 ad1 hd1 s1 x T1 F1 r1 d1=>?_) e;refine qG rfl (mi O eo hg b3 b4 (by decide) F1 (pj ⟨trivial,?_⟩));obtain⟨⟨b,rfl⟩,d1⟩:=d1;refine cX x r1 fun t=>?_;exact zo (q (.bool true) H1 ad1 hd1 s1 _ T1 F1 rfl d1)
end
section
variable{cc:CC}{c:FC}{A:VN}{Γ:cM}{k:Nat}{loc loc1:aM}{sc:VZ}{H:AH}{ad:List Addr}{hd:Hid}{s:Vo}{h h':Heap}{fr:List (Addr×Obj)}
variable{D:ja}
def AE:Xk (.type "bytearray") (Vg "__bytes__")=pure none:=by rw[V7,VO];kernel_rfl
def AF:Xk (.type "bytearray") (Vg "__index__")=pure none:=by rw[V7,VO];kernel_rfl
def ni:Xk (.type "bytearray") (Vg "__buffer__")=pure (some (.builtin "bytearray.__buffer__")):=by rw[V7,VO];kernel_rfl
def v':Xk (.type "bytearray") (Vg "__release_buffer__")=pure (some (.builtin "bytearray.__release_buffer__")):=by rw[V7,VO];kernel_rfl
section
variable{prog:WU}{w:XC}{id:String}{l:Addr}{E:d_}{o:Obj}{b:Array UInt8}{n:Nat}
def D7(hT:s.TypeIs (.ref l) "bytearray")(q:Q true s):Vy (Vt prog w) A (Wx (.ref l) "__buffer__") Q E s:=by
 unfold Wx;refine Vi (Wg hT ni ?_)
 (try dsimp only)
 rw[if_neg (by decide+kernel)];rw[show("bytearray.__buffer__".dropRight ("__buffer__".length+1))="bytearray"from by decide+kernel];exact XQ hT (b:=true) (by rw[Wk];kernel_rfl) q
def AG(hT:s.TypeIs (.ref l) "bytearray")(q:Q false s):Vy (Vt prog w) A (WI (.ref l)) Q E s:=by
 unfold WI Wx;refine Vi (Vi (Wg hT v' ?_))
 (try dsimp only)
 rw[if_neg (by decide+kernel)];rw[show("bytearray.__release_buffer__".dropRight ("__release_buffer__".length+1))="bytearray"from by decide+kernel];exact XQ hT (b:=true) (by rw[Wk];kernel_rfl) (Vp q)
def Iu(ho:s.heap.get? l=some o)(hc:o.cls=.type "bytearray")(hd:o.data=.bytearray b n)(q:Q (some b) s):
  Vy (Vt prog w) A (WW id (.ref l) full) Q E s:=by
 have hT:s.TypeIs (.ref l) "bytearray":=(i0 o ho hc)
 unfold WW;refine Vi (Wg hT ni ?_)
 (try dsimp only)
 refine Vi (D7 hT ?_);rw[if_neg (by decide)];refine Vi (Wg hT ni ?_)
 (try dsimp only)
 refine Vi (AG hT ?_);rw[if_neg (by decide)];refine Vi ?_;unfold Xg YH;refine Vi (Vi (XK ho ?_));rw[hd];exact Vp (Vp (Vp q))
def Iv(ho:s.heap.get? l=some o)(hc:o.cls=.type "bytearray")(hd:o.data=.bytearray b n)(hz:b.size<=sizeLine)
  (hQ:∀t k,Q (.bytes b t) {s with toks:=k}):
  Yj (Vt prog w) A (.call (.builtin "bytes.__new__") ⟨[.type "bytes",.ref l],[]⟩) (wants Q E) s:=by
 have hT:s.TypeIs (.ref l) "bytearray":=(i0 o ho hc)
 refine codeAny_of_tree ?_;show Vy _ A.in1 (do Zh "bytes.__new__" ⟨[.type "bytes",.ref l],[]⟩;again (.builtin "bytes.__new__" ⟨[.type "bytes",.ref l],[]⟩)) _ _ s;refine Vi (WM (F.bm_newCall _) (Vp ⟨plainId_quiet F.bm_plain _,codeAny_builtin F.bm_entry ?_⟩));rw[Zb F.bm_plain _];unfold VD.«bytes.__new__»;refine Vi (WM (a:=true) rfl ?_);refine ZJ rfl ?_;refine Vi (WM F.bm_sub ?_);refine ZJ rfl ?_;refine Vi (WM (F.bm_bind _) ?_);refine Vi (WM (a:=()) rfl ?_);refine Vi (WM (a:=()) rfl ?_);refine ZJ rfl ?_;refine Vi (Wg hT AE ?_);refine Vi (Vi ?_);show Vy _ _ (load l>>=_) _ _ _;refine Vi (XK ho ?_);rw[hd];refine Vp (Vp ?_);refine ZJ rfl ?_;refine Vi (Wg hT AF ?_);refine bm_if_true rfl ?_
 first
  |show Vy _ _ (WW "bytes.__new__" (.ref l) true>>=_) _ _ _
  |(refine Vi ?_;show Vy _ _ (WW "bytes.__new__" (.ref l) true>>=_) _ _ _)
 refine Vi (Iu ho hc hd ?_);refine Vi (Yt ?_);refine Vi (wpAny_mkBytes ?_ hz);refine bm_if_true (by decide) ?_
 first
  |exact Vp (hQ _ _)
  |exact Vi (Vp (Vp (hQ _ _)))
  |exact Vp (Vp (hQ _ _))
def q7(ho:s.heap.get? l=some o)(hc:o.cls=.type "bytearray")(hd:o.data=.bytearray b n)(hz:b.size<=sizeLine)
  (hQ:∀t k,Q (.bytes b t) {s with toks:=k}):Vy (Vt prog w) A (call (.type "bytes") [.ref l]) Q E s:=by
 refine callType_codes (Q₁:=fun obj s₁=>s₁.TypeIs obj "bytes"/\Q obj s₁) F.bm_called (F.bm_typeCall _) F.entry_object_init
  (Iv ho hc hd hz fun t k=>⟨VV _ _ _,hQ t k⟩) fun obj s₁ h₁=>?_
 exact⟨h₁.1,F.args_object_init_2 obj _,object_init_meets F.bm_called.init.lookup F.bm_called.made (by decide) prog w A.in1 _ s₁ ⟨h₁.1,rfl,h₁.2⟩⟩
end
set_option tactic.hygienic true in
/-- bytes(..) -/
def wc(hh:hn=true->A.handled=none):∀v x H ad hd s (Q:QE)(E:AH->Prop)(Qr:Vq->Vo->Prop)(Er:d_),FS cc c loc H ad hd s->VR ad v x->mR hn v H Q->KV cc c loc H ad hd Q Qr->
  Vy (Vt cc.prog cc.w) A (call (.type "bytes") [x]) Qr Er s:=by
 intro v x H ad hd s Q E Qr Er F r d q;rcases d with⟨j,xs,b,rfl,hj,h1,h2,hb,h3⟩|⟨j,b,rfl,hj,h2,h3⟩
 ·exact tw F (hh h1) r hj hb h2 fun s' t F'=>q (.bytes b) _ _ _ _ _ (.refl _ _ _) F' ⟨t,rfl⟩ h3
 ·refine jb x r fun a ea=>?_;refine o6 (F.hr.obj _ _ hj) fun a' o a1 a2 a3=>?_;rw[ea]at a1;(injection a1 with a1;subst a1);have a3:o={cls:=.type "bytearray",data:=.bytearray b.toArray 0}:=a3;subst a3;refine q7 a2 rfl rfl (V4 (by simpa using h2) (f_ (VB _))) fun t kk=>?_;exact q.by F h3 t kk
end
section
variable{cc:CC}{c:FC}{A:VN}{Γ:cM}{k:Nat}{loc loc1:aM}{sc:VZ}{H:AH}{ad:List Addr}{hd:Hid}{s:Vo}{h h':Heap}{fr:List (Addr×Obj)}
variable{D DA:ja}
set_option tactic.hygienic true in
/-- a method of bytes,with one argument -/
def sf{o a:Expr}{x:Str}{id:String}{ap pos:Pos}(slot:Slot "bytes" x id)(hty:typeOf (.builtin id)=pure (.type "method_descriptor"))
  (hc:bU o=false)(hl:(ap.endLine==pos.line)=true)(ha:aK a=true)
  (ho:aC cc c A loc (eval o c.env) D)(hA:aC cc c A loc (eval a c.env) DA){L:AV->AV->AH->QE->Prop}
  (leaf:∀u ux v x H ad hd s (Q:QE)(E:AH->Prop)(Qr:Vq->Vo->Prop)(Er:d_),FS cc c loc H ad hd s->VR ad u ux->VR ad v x->L u v H Q->KV cc c loc H ad hd Q Qr->Vy (Vt cc.prog cc.w) A (call (.builtin id) [ux,x]) Qr Er s):
  aC cc c A loc (eval (.Call (.Attribute o x ap) [a] [] pos) c.env) (fun H Q E=>D H (fun u H1=>(∃x,u=.bytes x)/\DA H1 (fun v H2=>L u v H2 Q) E) E):=by
 intro H ad hd s Q E Qr Er F d q e;rw[eN hc hl (by show 1<29;decide) (by rw[XO,ha];rfl)];refine Vi (ho _ _ _ _ _ _ _ _ F d (fun u H0 ad0 hd0 s0 ux T0 F0 r0 d0=>Vi (VY (Vi (V6 ?_)))) e);obtain⟨db,d0⟩:=d0;obtain⟨b,rfl⟩:=db;obtain⟨t,rfl⟩:=r0;refine getMethod_builtin (VV _ _ _) FB.plainAttrs_bytes slot hty (fun _ e=>nomatch e) ?_;refine bD (P:=fun _=>True) (by rw[XO,ha];rfl) mM (qG ha ?_);refine hA _ _ _ _ _ _ _ _ F0 d0 (fun v H1 ad1 hd1 s1 xv T1 F1 r1 d1=>pj ⟨trivial,?_⟩) (KE.tr e T0);exact leaf (.bytes b) _ v xv _ _ _ _ _ E _ _ F1 (i4 t rfl) r1 d1 (KV.tr (KV.tr q T0) T1)
set_option tactic.hygienic true in
def zr:∀u ux v x H ad hd s (Q:QE) (E:AH->Prop) (Qr:Vq->Vo->Prop) (Er:d_),FS cc c loc H ad hd s->VR ad u ux->VR ad v x->(u=.bytes []/\∃hn,x9 hn v H Q)->KV cc c loc H ad hd Q Qr->
  Vy (Vt cc.prog cc.w) A (call (.builtin "bytes.join") [ux,x]) Qr Er s:=by
 intro u ux v x H ad hd s Q E Qr Er F ru rv ⟨hu,hn,d⟩ q;subst hu;refine cX ux ru fun t=>?_;obtain⟨j,xs,b,rfl,hj,h1,h2,hb,h3,h4⟩:=d;refine jb x rv fun a ea=>?_;refine o1 (F.list ea hj) fun vs g1 r1=>?_;have:∀{xs:List AV} {us:List Vq} {b:List UInt8},nM xs=some b->aw (VR ad) xs us->∃bs:List (List UInt8),aw FR bs us/\bs.flatten=b:=by
  intro xs;induction xs with
  |nil=>intro us b e r;cases r;(injection e with e;subst e);exact i0 ([]) .nil rfl
  |cons y ys ih=>
   intro us b e r;cases r with
   |cons r0 rs=>
    induction y using AV.casesOn with
    |bytes y0=>
     rw[u5]at e;refine o7 b (VK.mp e) fun b' e1=>?_;refine o1 (ih e1 rs) fun bs p1 p2=>?_;exact i0 (y0::bs) (.cons r0 p1) (by rw[Xc,p2])
    |_=>injection e
 refine o1 (this hb r1) fun bs p1 p2=>?_;refine call_meets sm (VV _ _ _) wx (yO _ _) (wJ a vs bs t p1 (by rw[p2];exact f_ h3)) ⟨g1,fun t' kk=>?_⟩;rw[p2];exact q.by F h4 t' kk
set_option tactic.hygienic true in
def zd:∀u ux v x H ad hd s (Q:QE) (E:AH->Prop) (Qr:Vq->Vo->Prop) (Er:d_),FS cc c loc H ad hd s->VR ad u ux->VR ad v x->xR u v H Q->KV cc c loc H ad hd Q Qr->
  Vy (Vt cc.prog cc.w) A (call (.builtin "bytes.find") [ux,x]) Qr Er s:=by
 intro u ux v x H ad hd s Q E Qr Er F ru rv d q;obtain⟨b,y,rfl,rfl,h1,h2,h3⟩:=d
 ·refine cX ux ru fun t=>?_;refine cX x rv fun t'=>?_;refine call_meets sk (VV _ _ _) wu (yN _ _) (wz b y t t' h2) ?_;exact q.int F h3 _ _
def wL{x y:Str}(h:x≠y):merged [] [(x,u),(y,v)]=[(x,u),(y,v)]:=by
 unfold merged;simp only[XT,Zm];have e1:stored ([]:List (Str×Vq)) x u=[(x,u)]:=by unfold stored;simp
 rw[e1];unfold stored;simp[h]
def Dd(O:aO cc){x y:Str}(hx:cc.T.an[i]?=some x)(hy:cc.T.an[j]?=some y)(hA:aC cc c A loc (eval a c.env) D)(hB:aC cc c A loc (eval b c.env) DA):
  aC cc c A loc (eval (.Dict [some (.Constant (.str x) kx px),some (.Constant (.str y) ky py)] [a,b] pos) c.env) (fun H Q E=>
   D (H++[.dict []]) (fun u H1=>DA H1 (fun v H2=>i≠j/\H2[H.length]?=some (.dict [])/\Q (.ref H.length) (H2.set H.length (.dict [(i,u),(j,v)]))) E) E):=by
 intro H ad hd s Q E Qr Er F d q e;refine wpAny_Dict_walk (knd:=strKind cc.prog cc.w) rfl rfl (by simp) (by show 2<=15;decide) ?_;have F0:FS cc c loc (H++[.dict []]) (ad++[s.heap.objs.size]) hd {s with heap:=s.heap.push {cls:=.type "dict",data:=.dict #[]}}:=
  F.alloc (ao:=.dict []) (fun b o e=>Vx _ e) (by
   induction z:s.heap.get? s.heap.objs.size using Option.casesOn with
   |none=>rfl
   |some o=>exact absurd (Wb z) (WQ _)) (V_ _ rfl) (i2 ([]) 0 rfl .nil)
 have T0:Tr ad H hd (ad++[s.heap.objs.size]) (H++[.dict []]) hd:=.snoc _ _ _ _ _;have hd0:(ad++[s.heap.objs.size])[H.length]?=some s.heap.objs.size:=by rw[←F.hr.len];simp
 unfold pairTrees;refine evalPairs_cons (YW ?_);refine Vi (hA _ _ _ _ _ _ _ _ F0.toks d (fun u H1 ad1 hd1 s1 ux T1 F1 r1 d1=>Vi (VY (Vp ?_))) (KE.tr e T0));unfold pairTrees;refine evalPairs_cons (YW ?_);refine Vi (hB _ _ _ _ _ _ _ _ F1.toks d1 (fun v H2 ad2 hd2 s2 vx T2 F2 r2 d2=>Vi (VY (Vp ?_))) (KE.tr e (T0.trans T1)));refine qX d2 fun hne hH d2=>?_;have hxy:x≠y:=fun z=>hne (by
  rw[←z]at hy;refine o8 (Vn.mp hx) fun h1 e1=>?_;refine o8 (Vn.mp hy) fun h2 e2=>?_;exact(List.getElem_inj O.an).mp (e1.trans e2.symm))
 have ea2:=aX (T1.ad.trans T2.ad) hd0;unfold pairTrees;refine evalPairs_nil (i8 ([(x,ux),(y,vx)]) ⟨Z_ _ _ _ _,rfl,Z_ _ _ _ _,rfl,trivial⟩ ?_ (fun h' D' sb=>?_))
 ·refine o2 (F2.dictAt ea2 hH) fun ents m e2 R=>?_;cases R;refine o1 (nB O (prog:=cc.prog) e2 (.nil (R:=DE cc ad2)) .nil) fun kvs D kr=>?_;cases kr;exact D
 ·rw[wL hxy]at D';refine Ut D' fun o' es' ep ho hex hdat hk hp _=>?_;have ho':o'=YX es'.toList ep:=by
   obtain⟨c1,c2,c3,c4⟩:=o';refine qX hex fun x1 x2 x3=>?_;simp only at x1 x2 x3 hdat;subst x1 x2 x3 hdat;show _=YX es'.toList ep;unfold YX;simp
  have kr:aw (KR cc ad2) [(i,u),(j,v)] [(x,ux),(y,vx)]:=.cons ⟨hx,r1.mono T2.ad⟩ (.cons ⟨hy,r2⟩ .nil);refine q (.ref H.length) _ _ _ _ _ (((T0.trans T1).trans T2).trans (Tr.set hH (fun z=>z))) (F2.upd (ao:=.dict [(i,u),(j,v)]) (o:=o') ea2 hH (fun z=>z) sb.extBut ho
   (i2 es'.toList ep ho' (vy kr hp fun e he=>hk e (by simpa using he)))) (i0 _ ea2 rfl) d2
end
end Mine
end
section
namespace Mine
open PySem PySem.W PyProof.Rows PySem.Calls PySem.SeqAt
section
variable{cc:CC}{c:FC}{A:VN}{Γ:cM}{k:Nat}{loc loc1:aM}{sc:VZ}{H:AH}{ad:List Addr}{hd:Hid}{s:Vo}{h h':Heap}{fr:List (Addr×Obj)}
def wy(a b:Array UInt8)(t u:Tok):EqAt A s (.bytes a t) (.bytes b u) (a.toList==b.toList):=fun prog w E Q h=>by
 unfold eqBool;refine V6 ?_;refine XA (fun hab=>?_) (fun hab=>?_)
 ·have e:a=b:=by have:=eq_of_beq hab;injection this
  subst e;exact Vi (Yt (Vp (by simpa using h)))
 ·exact Vi (eq_bytes (XH h))
def rH{x y u v:Vq}{xb yb:List UInt8}(h1:∃t,x=.bytes xb.toArray t)(h2:∃t,y=.int m t)(h3:∃t,u=.bytes yb.toArray t)(h4:∃t,v=.int n t):
  ∀j (q1:j<#[x,y].size)(q2:j<#[u,v].size),EqAt A s #[x,y][j] #[u,v][j] (if j=0 then xb==yb else m==n):=by
 refine cX x h1 fun t1=>?_;refine cX y h2 fun t2=>?_;refine cX u h3 fun t3=>?_;refine cX v h4 fun t4=>?_;intro j q1 q2
 match j,q1,q2 with
 |0,_,_=>exact wy _ _ _ _
 |1,_,_=>exact EqAt.int_int _ _ _ _
def vw{xs:List AV}(r:aw (VR ad) [a,b] vs.toList):∃x y,vs=#[x,y]/\VR ad a x/\VR ad b y:=by
 obtain⟨l⟩:=vs;obtain⟨x,m,rfl,r1,r⟩:=r.cons_inv;refine UV m r.cons_inv fun y m r2 r=>?_;obtain rfl:=r.nil_inv;exact i1 x y rfl r1 r2
def b8{a:Addr}{vs:Array Vq}{n:Nat}(e:s.heap.get? a=some {cls:=.type "tuple",data:=.seq vs n}):s.heap.IsTuple a vs:=(i7 _ e rfl _ rfl)
def bx.cl(ao:bx c A k):A.units<cLine:=by have:=ao.units;exact Sm this
def Cb(ao:bx c A k)(F:FS cc c loc H ad hd s){a b:AV}{x y:Vq}{Q:Bool->Prop}(d:Rm a b H Q):VR ad a x->VR ad b y->∃v,Q v/\RcAt A s x y v/\RcNeAt A s x y (!v):=by
 have hu:=ao.cl;induction d using DK.rec with
 |nn q=>
  intro ra rb;rw[show x=.none from ra,show y=.none from rb];exact i8 true q RcAt.none_none RcNeAt.none_none
 |nt j xs e q=>
  intro ra rb;rw[show x=.none from ra];refine jb y rb fun a1 e1=>?_;obtain⟨vs,n,e2,_⟩:=F.tup e1 e;exact i8 false q (RcAt.none_tuple (b8 e2) hu) (RcNeAt.none_tuple (b8 e2) hu)
 |tn j xs e q=>
  intro ra rb;rw[show y=.none from rb];refine jb x ra fun a1 e1=>?_;obtain⟨vs,n,e2,_⟩:=F.tup e1 e;exact i8 false q (RcAt.tuple_none (b8 e2) hu) (RcNeAt.tuple_none (b8 e2) hu)
 |tt i j xb yb m n h1 h2 d=>
  intro ra rb;refine jb x ra fun a1 e1=>?_;refine jb y rb fun a2 e2=>?_;obtain⟨vs,nn,g1,r1⟩:=F.tup e1 h1;obtain⟨us,mm,g2,r2⟩:=F.tup e2 h2;obtain⟨x1,x2,rfl,p1,p2⟩:=vw (xs:=[]) r1;obtain⟨y1,y2,rfl,q1,q2⟩:=vw (xs:=[]) r2;refine i8 ((xb==yb)&&(m==n)) (d _ (by simp)) ?_ ?_
  ·have:=RcAt.tuples (b8 g1) (b8 g2) hu (rH p1 p2 q1 q2)
   simpa [List.range_succ]using this
  ·have:=RcNeAt.tuples (b8 g1) (b8 g2) hu (rH p1 p2 q1 q2)
   simpa [List.range_succ]using this
 |ll i j xs h1 h2 hl q=>
  intro ra rb;refine jb x ra fun a1 e1=>?_;refine jb y rb fun a2 e2=>?_;obtain⟨vs,g1,r1⟩:=F.list e1 h1;obtain⟨us,g2,r2⟩:=F.list e2 h2;have z2:us.size=0:=r2.size;have z1:vs.size=xs.length:=r1.size;refine i0 xs.isEmpty q ?_;cases xs with
  |nil=>
   have z:vs.size=us.size:=z1.trans z2.symm;have t1:=RcAt.lists (e:=fun _=>true) g1 g2 z hu (fun j p q=>(Nat.not_lt_zero _ (z2▸q)).elim);have t2:=RcNeAt.lists (e:=fun _=>true) g1 g2 z hu (fun j p q=>(Nat.not_lt_zero _ (z2▸q)).elim);rw[z1]at t1 t2;exact⟨t1,t2⟩
  |cons x xs=>
   have z:(vs.size !=us.size)=true:=by rw[z1,z2];rfl
   exact⟨RcAt.lists_lengths g1 g2 z hu,RcNeAt.lists_lengths g1 g2 z hu⟩
def mv(cc:CC):k_ cc where
 eq ao F ra rb d q:=by
  refine eD (Cb ao F d ra rb) fun v hv h1 _=>?_;exact h1 _ _ _ _ (q v _ F hv)
 ne ao F ra rb d q:=by
  refine eD (Cb ao F d ra rb) fun v hv _ h1=>?_;exact h1 _ _ _ _ (q v _ F hv)
 has ao F ra rb d q:=by
  obtain⟨m,bs,rfl,rfl,h0,h1,_,d⟩:=d;obtain⟨t,rfl⟩:=ra;obtain⟨u,rfl⟩:=rb;exact Jy h0 h1 (by rw[Jx h0 h1];exact q _ _ F d)
end
end Mine
end
section
namespace Mine
open PySem PySem.W PyProof.Rows PySem.Calls
section
variable{cc:CC}{c:FC}{A:VN}{Γ:cM}{k:Nat}{loc loc1:aM}{sc:VZ}{H:AH}{ad:List Addr}{hd:Hid}{s:Vo}{h h':Heap}{fr:List (Addr×Obj)}
variable{D DA:ja}
def PE(cc:CC)(Γ:cM)(c:FC)(A:VN)(k:Nat)(loc:aM)(e:Expr)(i:IE):Prop:=
 aC cc c A loc (eval e c.env) (ae Γ c.cl k c.hn loc i)/\bZ cc c A loc (VM e c.env (eval e c.env)) (denT Γ c.cl k c.hn loc i)
def ah:PE cc Γ c A k loc e .bad:=⟨iE,fun H ad hd s Q E Qr Er F d=>Xn d⟩
def C0(h:aC cc c A loc (eval e c.env) (ae Γ c.cl k c.hn loc i))(hi:∀H Q E,denT Γ c.cl k c.hn loc i H Q E->ae Γ c.cl k c.hn loc i H (fun v H1=>aE v (fun b=>Q b H1)) E)
  (he:VM e c.env (eval e c.env)=(do let v←eval e c.env;Yh e.pos;holding [v] (truthy v))):PE cc Γ c A k loc e i:=
 ⟨h,mY (xd he h) hi⟩
def cy(S:aN sc c.env.scope)(h:sc.names.lookup x=some .globalImplicit):c.env.scope.names.lookup x=some .globalImplicit:=by
 rcases S x with z|z
 ·rw[z];exact h
 ·rw[h]at z;cases z.1
def vF(S:aN sc c.env.scope)(h:sc.names.lookup x=some .local):c.env.scope.names.lookup x=some .local:=by
 rcases S x with z|z
 ·rw[z];exact h
 ·rw[h]at z;cases z.1
def Fx(S:aN sc c.env.scope)(h:sc.names.lookup x=some .cell):c.env.scope.names.lookup x=some .cell:=by
 rcases S x with z|z
 ·rw[z];exact h
 ·rw[h]at z;cases z.1
def QR(S:aN sc c.env.scope)(h:sc.names.lookup x=some .cell\/sc.names.lookup x=some .free):c.env.scope.names.lookup x=some .cell\/c.env.scope.names.lookup x=some .free:=by
 rcases S x with z|z
 ·rw[z];exact h
 ·exact .inl z.2
def sW(O:aO cc)(eo:ay c)(hl:c.env.scope.names.lookup x=some .globalImplicit)(hv:cc.mg x=some v)(hx:(x==("__debug__":Str))=false)
  (F:FS cc c loc H ad hd s)(q:Qr v s):Vy (Vt cc.prog cc.w) A (eval (.Name x p) c.env) Qr Er s:=
 WX eo.kind hl (XI (F.glob O eo).1 hv q) hx
def wm(S:aN sc c.env.scope)(h:ny csc sc c.cn=true):jf c csc:=by
 unfold ny at h;rw[VU,Xi]at h;refine kY h fun h1 h2=>?_;refine⟨beq_iff_eq.mp h1,fun y hy hk=>?_,fun y hy hk=>?_,fun n hn=>?_⟩
 ·have:=h2 y hy;rw[hk]at this;exact beq_iff_eq.mp this
 ·have:=h2 y hy;rw[hk]at this;injection this
 ·have:=h2 _ hn;simp only[VU,Ys,beq_iff_eq]at this;refine kY this fun h3 h4=>?_;induction hp:pos? n c.cn using Option.casesOn with
  |none=>rw[hp]at h4;injection h4
  |some j=>exact i0 j (pos?_get hp) (QR S h3)
def RN(T:kE)(sc:VZ)(x:Str):CK->Prop
 |.fn a=>(x==("__debug__":Str))=false/\sc.names.lookup x=some .globalImplicit/\T.gl.lookup x=some (.fn a)
 |.cls=>(x==("__debug__":Str))=false/\sc.names.lookup x=some .globalImplicit/\T.gl.lookup x=some .cls
 |.len=>sc.names.lookup x=some .globalImplicit/\x=("len":Str)
 |.bytes=>sc.names.lookup x=some .globalImplicit/\x=("bytes":Str)
 |.isi=>sc.names.lookup x=some .globalImplicit/\x=("isinstance":Str)
 |.barr=>True|.val=>True|.bad=>True
def yT:RN T sc x (pO T sc x):=by
 refine nL (fun _=>trivial) fun hx=>?_;induction hl:sc.names.lookup x using Option.casesOn with
 |none=>trivial
 |some nk=>
  induction nk using ZC with
  |globalImplicit=>
   show RN T sc x (match T.gl.lookup x with
    |some (.fn a)=>.fn a
    |some .cls=>.cls
    |some _=>.bad
    |none=>if x==("len":Str)then .len else if x==("bytes":Str)then .bytes else if x==("bytearray":Str)then .barr else if x==("isinstance":Str)then .isi else .bad)
   induction hg:T.gl.lookup x using Option.casesOn with
   |none=>exact nL (fun h=>⟨hl,beq_iff_eq.mp h⟩) fun _=>nL (fun h=>⟨hl,beq_iff_eq.mp h⟩) fun _=>nL (fun _=>trivial) fun _=>nL (fun h=>⟨hl,beq_iff_eq.mp h⟩) fun _=>trivial
   |some g=>
    induction g using GV.casesOn with
    |fn a=>exact⟨(AL hx).1,hl,hg⟩
    |cls=>exact⟨(AL hx).1,hl,hg⟩
    |_=>trivial
  |_=>trivial
def gb(h:pO T sc x=y):RN T sc x y:=h▸yT
structure F_(cc:CC)(Γ:cM)(n:Nat):Prop where
 e:∀(c:FC)(A:VN)(k:Nat)(sc:VZ)(cp:Bool)(loc:aM)(e:Expr),bx c A k->ay c->(cp=true->aR c A)->aN sc c.env.scope->PE cc Γ c A k loc e (aF cc.T c.cn cp n sc e)
 es:∀(c:FC)(A:VN)(k:Nat)(sc:VZ)(cp:Bool)(loc:aM)(es:List Expr)(pos:Pos),bx c A k->ay c->(cp=true->aR c A)->aN sc c.env.scope->ji cc c A loc (Wq (Wh pos (V1 es c.env))) (denEs Γ c.cl k c.hn loc (compEs cc.T c.cn cp n sc es))
 an:∀(c:FC)(A:VN)(k:Nat)(sc:VZ)(cp:Bool)(loc:aM)(es:List Expr)(pos:Pos),bx c A k->ay c->(cp=true->aR c A)->aN sc c.env.scope->
  aC cc c A loc (eval (.BoolOp .And es pos) c.env) (ae Γ c.cl k c.hn loc (compAnd cc.T c.cn cp n sc es))/\∀whole,bZ cc c A loc (VM (.BoolOp .And es pos) c.env whole) (denT Γ c.cl k c.hn loc (compAnd cc.T c.cn cp n sc es))
 or:∀(c:FC)(A:VN)(k:Nat)(sc:VZ)(cp:Bool)(loc:aM)(es:List Expr)(pos:Pos),bx c A k->ay c->(cp=true->aR c A)->aN sc c.env.scope->
  aC cc c A loc (eval (.BoolOp .Or es pos) c.env) (ae Γ c.cl k c.hn loc (compOr cc.T c.cn cp n sc es))/\∀whole,bZ cc c A loc (VM (.BoolOp .Or es pos) c.env whole) (denT Γ c.cl k c.hn loc (compOr cc.T c.cn cp n sc es))
def Qa:ae Γ c.cl k c.hn loc .none=fun H Q _=>Q .none H:=by
 rfl
def j4:bZ cc c A loc t (denT Γ c.cl k c.hn loc .bad):=by
 intro H ad hd s Q E Qr Er F d;exact Xn d
def E3:F_ cc Γ 0 where
 e c A k sc cp loc e ao eo tp S:=ah
 es c A k sc cp loc es pos ao eo tp S:=by
  intro H ad hd s Q E Qr Er F d;exact Xn d
 an c A k sc cp loc es pos ao eo tp S:=⟨iE,fun _=>j4⟩
 or c A k sc cp loc es pos ao eo tp S:=⟨iE,fun _=>j4⟩
def Qy(I:F_ cc Γ n)(c:FC)(A:VN)(k:Nat)(sc:VZ)(cp:Bool)(loc:aM)(es:List Expr)(pos:Pos)(ao:bx c A k)(eo:ay c)(tp:cp=true->aR c A)(S:aN sc c.env.scope):
  ji cc c A loc (Wq (Wh pos (V1 es c.env))) (denEs Γ c.cl k c.hn loc (compEs cc.T c.cn cp (n+1) sc es)):=by
 induction es using Vr with
 |nil=>exact mZ
 |cons x r=>
  induction hs:aK x using Vu with
  |true=>
   have e0:compEs cc.T c.cn cp (n+1) sc (x::r)=.cons (aF cc.T c.cn cp n sc x) (compEs cc.T c.cn cp n sc r):=if_pos hs;rw[e0];exact kz hs (I.e c A k sc cp loc x ao eo tp S).1 (I.es c A k sc cp loc r pos ao eo tp S)
  |false=>
   have e0:compEs cc.T c.cn cp (n+1) sc (x::r)=.cons .bad .nil:=if_neg (by rw[hs];decide);rw[e0];intro H ad hd s Q E Qr Er F d;exact Xn d
def Qw(I:F_ cc Γ n)(c:FC)(A:VN)(k:Nat)(sc:VZ)(cp:Bool)(loc:aM)(es:List Expr)(pos:Pos)(ao:bx c A k)(eo:ay c)(tp:cp=true->aR c A)(S:aN sc c.env.scope):
  aC cc c A loc (eval (.BoolOp .And es pos) c.env) (ae Γ c.cl k c.hn loc (compAnd cc.T c.cn cp (n+1) sc es))/\∀whole,bZ cc c A loc (VM (.BoolOp .And es pos) c.env whole) (denT Γ c.cl k c.hn loc (compAnd cc.T c.cn cp (n+1) sc es)):=by
 match es with
 |[]=>exact⟨iE,fun _=>j4⟩
 |[x]=>
  have:=I.e c A k sc cp loc x ao eo tp S;exact⟨this.1,fun whole=>zX this.2⟩
 |x::y::r=>
  have h1:=I.e c A k sc cp loc x ao eo tp S;have h2:=I.an c A k sc cp loc (y::r) pos ao eo tp S;refine⟨qM (Cf (by simp) h1.1 h2.1) fun H Q E d=>?_,fun whole=>mY (Dj h1.2 (h2.2 whole)) fun H Q E d=>?_⟩
  ·exact d
  ·exact d
def Qz(I:F_ cc Γ n)(c:FC)(A:VN)(k:Nat)(sc:VZ)(cp:Bool)(loc:aM)(es:List Expr)(pos:Pos)(ao:bx c A k)(eo:ay c)(tp:cp=true->aR c A)(S:aN sc c.env.scope):
  aC cc c A loc (eval (.BoolOp .Or es pos) c.env) (ae Γ c.cl k c.hn loc (compOr cc.T c.cn cp (n+1) sc es))/\∀whole,bZ cc c A loc (VM (.BoolOp .Or es pos) c.env whole) (denT Γ c.cl k c.hn loc (compOr cc.T c.cn cp (n+1) sc es)):=by
 match es with
 |[]=>exact⟨iE,fun _=>j4⟩
 |[x]=>
  have:=I.e c A k sc cp loc x ao eo tp S;exact⟨this.1,fun whole=>Dm this.2⟩
 |x::y::r=>
  have h1:=I.e c A k sc cp loc x ao eo tp S;have h2:=I.or c A k sc cp loc (y::r) pos ao eo tp S;refine⟨qM (EE (by simp) h1.1 h2.1) fun H Q E d=>?_,fun whole=>mY (FD h1.2 (h2.2 whole)) fun H Q E d=>?_⟩
  ·exact d
  ·exact d
def HM(hn:Bool)(u v:AV)(H:AH)(Q:QE):Prop:=match u with
 |.bytes []=>x9 hn v H Q
 |_=>False
def wI:∀u ux v x H ad hd s (Q:QE)(E:AH->Prop)(Qr:Vq->Vo->Prop)(Er:d_),FS cc c loc H ad hd s->VR ad u ux->VR ad v x->HM hn u v H Q->KV cc c loc H ad hd Q Qr->
  Vy (Vt cc.prog cc.w) A (call (.builtin "bytes.join") [ux,x]) Qr Er s:=by
 intro u ux v x H ad hd s Q E Qr Er F ru rv d q;induction u using AV.casesOn with
 |bytes b=>
  induction b using Vr with
  |nil=>exact zr _ ux v x H ad hd s Q E Qr Er F ru rv (i9 rfl hn d) q
  |cons _ _=>exact d.elim
 |_=>exact d.elim
def IE.plain:IE->Prop
 |.not _=>False|.and _ _=>False|.or _ _=>False|.ite _ _ _=>False
 |_=>True
def vz(h:i.plain):∀H Q E,denT Γ c.cl k c.hn loc i H Q E->ae Γ c.cl k c.hn loc i H (fun v H1=>aE v (fun b=>Q b H1)) E:=by
 intro H Q E d;induction i using IE.casesOn<;>first|exact d|exact d.elim|exact h.elim
def bX(hp:i.plain)(h:aC cc c A loc (eval e c.env) (ae Γ c.cl k c.hn loc i))
  (he:VM e c.env (eval e c.env)=(do let v←eval e c.env;Yh e.pos;holding [v] (truthy v))):PE cc Γ c A k loc e i:=C0 h (vz hp) he
def tC(hp:i.plain)(hm:Z2 op r=false)(h:v3 cc c A loc op l r (ae Γ c.cl k c.hn loc i)):PE cc Γ c A k loc (.Compare l [op] [r] pos) i:=
 ⟨BB hm h,mY (BD hm h) (vz hp)⟩
variable{r:Expr->IE}(hr:∀e,PE cc Γ c A k loc e (r e)){rs:List Expr->IEs}(hs:∀es pos,ji cc c A loc (Wq (Wh pos (V1 es c.env))) (denEs Γ c.cl k c.hn loc (rs es)))
def ua(h:t_ e=some x):∃kk p,e=.Constant (.str x) kk p:=by
 refine sC e fun R hR=>?_;induction e using Expr.casesOn with
 |Constant v kk p=>induction v using XN<;>cases h;exact hR _ (i5 _ _ rfl)
 |_=>injection h
def uZ(h:qw o=true):∃kk p,o=.Constant (.bytes []) kk p:=by
 refine sC o fun R hR=>?_;induction o using Expr.casesOn with
 |Constant v kk p=>
  induction v using XN with
  |bytes b=>
   induction b using Vr with
   |nil=>exact hR _ (i5 _ _ rfl)
   |cons _ _=>injection h
  |_=>injection h
 |_=>injection h
def wM:(r8 T sc cn x).plain:=by
 exact r9 (P:=IE.plain) trivial (fun _ _ _ _=>trivial) (fun _ _ _ _ _=>trivial) fun _ _=>⟨fun _ _=>trivial,fun _ _=>trivial⟩
def CZ{v:Const}{kk:Nat}{p:Pos}:PE cc Γ c A k loc (.Constant v kk p) (Bw v):=by
 induction v using XN with
 |int i=>exact bX trivial (gV (av:=.int i) (x:=.none) (fun Q E s h=>wpAny_Constant_int (h _ _)) trivial) rfl
 |bool b=>exact bX trivial (gV (av:=.bool b) (x:=.bool b) (fun Q E s h=>wpAny_Constant_bool (h 0 _)) rfl) rfl
 |none=>exact bX trivial (gV (av:=.none) (x:=.none) (fun Q E s h=>V' (h 0 _)) rfl) rfl
 |bytes b=>exact bX trivial (gV (av:=.bytes b) (x:=.none) (fun Q E s h=>Constant_bytes (h _ _)) trivial) rfl
 |_=>exact ah
include hr
def Fc(O:aO cc)(hc:bU o=false):PE cc Γ c A k loc (.Attribute o a p) (Iq cc.T a (.attr (r o))):=by
 unfold Iq;induction hi:pos? a cc.T.an using Option.casesOn with
 |none=>exact ah
 |some i=>
  by_cases h8:i<8
  ·simp only[h8,if_true];exact bX trivial (C_ O hc (pos?_get hi) h8 (hr o).1) rfl
  ·simp only[h8,if_false];exact ah
def Fe(X:k_ cc)(ao:bx c A k)(hset:∀x,dN x=false->r x=.bad):PE cc Γ c A k loc (.Compare l [op] [x] p) (Eh r l x op):=by
 have cop:∀o,iJ op=some o->PE cc Γ c A k loc (.Compare l [op] [x] p) (.cmp o (r l) (r x)):=fun o ho=>by
  rw[mu ho];exact tC trivial (kh _ _) (C5 X ao (hr l).1 (hr x).1)
 induction op using CmpOp.casesOn with
 |Is=>
  unfold Eh;induction hn:eC x using Vu with
  |true=>exact tC trivial (by refine uf x (gQ hn) fun _ _=>?_;rfl) (Fo hn (hr l).1)
  |false=>exact ah
 |IsNot=>
  unfold Eh;induction hn:eC x using Vu with
  |true=>exact tC trivial (by refine uf x (gQ hn) fun _ _=>?_;rfl) (wZ hn (hr l).1)
  |false=>exact ah
 |In=>
  induction hx:dN x using Vu with
  |true=>exact tC trivial (by induction x using Expr.casesOn<;>first|rfl|injection hx) (Fn X ao (hr l).1 (hr x).1)
  |false=>
   have hb:=hset x hx;refine⟨fun H ad hd s Q E Qr Er F d q e=>?_,fun H ad hd s Q E Qr Er F d q e=>?_⟩
   ·have d:ae Γ c.cl k c.hn loc (.inB (r l) (r x)) H Q E:=d;rw[hb]at d;exact Vi ((hr l).1 _ _ _ _ _ _ _ _ F d (fun _ _ _ _ _ _ _ _ _ d1=>Xn d1) e)
   ·have d:denT Γ c.cl k c.hn loc (.inB (r l) (r x)) H Q E:=d;rw[hb]at d;exact Vi ((hr l).1 _ _ _ _ _ _ _ _ F d (fun _ _ _ _ _ _ _ _ _ d1=>Xn d1) e)
 |NotIn=>exact ah
 |Eq=>exact cop _ rfl
 |NotEq=>exact cop _ rfl
 |Lt=>exact cop _ rfl
 |LtE=>exact cop _ rfl
 |Gt=>exact cop _ rfl
 |GtE=>exact cop _ rfl
def Ff(X:k_ cc)(ao:bx c A k)(hset:∀x,dN x=false->r x=.bad):∀ops cs,PE cc Γ c A k loc (.Compare l ops cs p) (HD r l ops cs)
 |[],_=>ah
 |[_],[]=>ah
 |[op],[x]=>Fe hr X ao hset
 |[_],_::_::_=>ah
 |[_,_],[]=>ah
 |[_,_],[_]=>ah
 |[o1,o2],[m,x]=>by
  show PE cc Γ c A k loc _ (match iJ o1 with|some a=>(match iJ o2 with|some b=>.cmp2 a b (r l) (r m) (r x)|none=>.bad)|none=>.bad);induction ha:iJ o1 using Option.casesOn with
  |none=>exact ah
  |some a=>
   induction hb:iJ o2 using Option.casesOn with
   |none=>exact ah
   |some b=>
    rw[mu ha,mu hb];exact⟨Da X ao (hr _).1 (hr _).1 (hr _).1,zY X ao (hr _).1 (hr _).1 (hr _).1⟩
 |[_,_],_::_::_::_=>ah
 |_::_::_::_,_=>ah
def ym:∀o,Ad cc c A loc o (ae Γ c.cl k c.hn loc (JZ r o))
 |none=>rfl
 |some e=>(hr e).1
def J0(O:aO cc)(V:az cc Γ):PE cc Γ c A k loc (.Subscript v i p) (PW cc.T r v i):=by
 have idx:jN i=false->PE cc Γ c A k loc (.Subscript v i p) (.idx (r v) (r i)):=fun h=>bX trivial (Fs V h (hr v).1 (hr i).1) rfl;induction i using Expr.casesOn with
 |Slice lo hi st q=>
  induction st using Option.casesOn with
  |none=>exact bX trivial (Fv V (hr v).1 (ym hr lo) (ym hr hi)) rfl
  |some _=>exact ah
 |Constant w kk q=>
  induction w using XN with
  |str x=>
   show PE cc Γ c A k loc _ (q3 cc.T x (.key (r v)));unfold q3;induction hi:pos? x cc.T.an using Option.casesOn with
   |none=>exact ah
   |some j=>
    refine bX trivial ?_ rfl;intro H ad hd s Q E Qr Er F d q e;refine Subscript_ ((hr v).1 _ _ _ _ _ _ _ _ F d (fun a H1 ad1 hd1 s1 x T1 F1 r1 d1=>?_) e);refine YW ?_;exact JQ O rfl (pos?_get hi) F1.toks r1 d1 (KV.tr q T1)
  |_=>exact idx rfl
 |Tuple _ _ _=>exact ah
 |_=>exact idx rfl
def Fh(O:aO cc):∀ks vs,PE cc Γ c A k loc (.Dict ks vs p) (HF cc.T r ks vs)
 |[some kx,some ky],[a,b]=>by
  show PE cc Γ c A k loc _ (match t_ kx with
   |some x=>(match t_ ky with|some y=>q3 cc.T x fun i=>q3 cc.T y fun j=>.dict i (r a) j (r b)|none=>.bad)
   |none=>.bad)
  induction hx:t_ kx using Option.casesOn with
  |none=>exact ah
  |some x=>
   induction hy:t_ ky using Option.casesOn with
   |none=>exact ah
   |some y=>
    refine uf kx (ua hx) fun _ _=>?_;refine uf ky (ua hy) fun _ _=>?_;show PE cc Γ c A k loc _ (q3 cc.T x fun i=>q3 cc.T y fun j=>.dict i (r a) j (r b));unfold q3;induction hi:pos? x cc.T.an using Option.casesOn with
    |none=>exact ah
    |some i=>
     induction hj:pos? y cc.T.an using Option.casesOn with
     |none=>exact ah
     |some j=>exact bX trivial (Dd O (pos?_get hi) (pos?_get hj) (hr a).1 (hr b).1) rfl
 |[],_=>ah
 |none::_,_=>ah
 |[some _],_=>ah
 |some _::none::_,_=>ah
 |some _::some _::_::_,_=>ah
 |[some _,some _],[]=>ah
 |[some _,some _],[_]=>ah
 |[some _,some _],_::_::_::_=>ah
include hs
def Fd(O:aO cc)(V:az cc Γ)(MO:pD cc Γ.init)(ao:bx c A k)(eo:ay c)(S:aN sc c.env.scope){f:Str}{fp pos:Pos}{as:List Expr}:
  PE cc Γ c A k loc (.Call (.Name f fp) as [] pos) (Bv cc.T c.cn sc r rs f as):=by
 unfold Bv;induction hz:as.all aK using Vu with
 |false=>exact ah
 |true=>
  have hL:=hs as pos;induction hk:pO cc.T sc f using CK.casesOn with
  |fn a=>
   obtain⟨h1,h2,h3⟩:=gb hk;obtain⟨g1,g2⟩:=O.globs _ _ h3;exact bX trivial (C' O V ao hz g2 rfl (fun F q=>sW O eo (cy S h2) g1 h1 F q) hL) rfl
  |cls=>
   obtain⟨h1,h2,h3⟩:=gb hk;obtain⟨g1,g2⟩:=O.globs _ _ h3;exact bX trivial (J5 O V MO ao hz g2 rfl (fun F q=>sW O eo (cy S h2) g1 h1 F q) hL) rfl
  |val=>exact bX trivial (zO V ao hz rfl (qO (Γ:=Γ) (k:=k) O eo S) hL) rfl
  |len=>
   obtain⟨h2,rfl⟩:=gb hk
   match as with
   |[]=>exact ah
   |_::_::_=>exact ah
   |[a]=>
    induction ha:aK a using Vu with
    |false=>simp only[ha];exact ah
    |true=>
     simp only[ha,if_true];obtain⟨b1,b2⟩:=O.bi ("len",.builtin "len") (by simp);exact bX trivial (qN O eo (cy S h2) b1 b2 (by decide) mM ha rfl (hr a).1 (L:=Cy) CB) rfl
  |bytes=>
   obtain⟨h2,rfl⟩:=gb hk
   match as with
   |[]=>exact ah
   |_::_::_=>exact ah
   |[a]=>
    induction ha:aK a using Vu with
    |false=>simp only[ha];exact ah
    |true=>
     simp only[ha,if_true];obtain⟨b1,b2⟩:=O.bi ("bytes",.type "bytes") (by simp);exact bX trivial (qN O eo (cy S h2) b1 b2 (by decide) lJ ha rfl (hr a).1 (L:=mR c.hn) (wc fun h=>by rw[ao.hnd,ao.hn h];rfl)) rfl
  |barr=>exact ah
  |isi=>
   obtain⟨h2,rfl⟩:=gb hk
   match as with
   |[]=>exact ah
   |[_]=>exact ah
   |_::_::_::_=>exact ah
   |[a,b]=>
    induction ha:aK a&&nr cc.T sc b using Vu with
    |false=>simp only[ha];exact ah
    |true=>
     simp only[ha,if_true];rw[VU]at ha;obtain⟨ha,hb⟩:=ha;induction b using Expr.casesOn with
     |Name g gp=>
      delta nr at hb;simp only[VU,beq_iff_eq]at hb;obtain⟨⟨rfl,hb2⟩,_⟩:=hb;exact bX trivial (vD O eo (cy S h2) rfl (cy S hb2) rfl ha (hr a).1) rfl
     |_=>injection hb
  |bad=>exact ah
def Fi(O:aO cc)(V:az cc Γ)(ao:bx c A k){o:Expr}{m:Str}{ap pos:Pos}{as:List Expr}:
  PE cc Γ c A k loc (.Call (.Attribute o m ap) as [] pos) (Bx cc.T r rs o m ap pos as):=by
 unfold Bx;induction hz:(bU o|| !(ap.endLine==pos.line)|| !decide (as.length<29)|| !(as.all aK))using Vu with
 |true=>exact ah
 |false=>
  simp only[XF,Bool.not_eq_false',decide_eq_true_eq]at hz;obtain⟨⟨⟨h1,h2⟩,h3⟩,h4⟩:=hz;induction hf:cc.T.mt.lookup m using Option.casesOn with
  |some f=>exact bX trivial (zR O V ao h1 h2 h3 h4 hf (hr o).1 (hs as pos)) rfl
  |none=>
   match as with
   |[]=>exact ah
   |_::_::_=>exact ah
   |[a]=>
    induction ha:aK a using Vu with
    |false=>simp only[ha];exact ah
    |true=>
     simp only[ha,Bool.not_true,V0,if_false];by_cases hm:(m==("find":Str))=true
     ·simp only[hm,if_true];cases beq_iff_eq.mp hm;exact bX trivial (sf sk rfl h1 h2 ha (hr o).1 (hr a).1 (L:=xR) zd) rfl
     ·simp only[hm];by_cases hj:(m==("join":Str))=true
      ·simp only[hj,if_true];cases beq_iff_eq.mp hj;induction he:qw o using Vu with
       |false=>exact ah
       |true=>
        obtain⟨_,_,rfl⟩:=uZ he;exact bX trivial (qM (sf (D:=fun H Q _=>Q (.bytes []) H) sm rfl h1 h2 ha (gV (av:=.bytes []) (x:=.none) (fun Q E s h=>Constant_bytes (h _ _)) trivial) (hr a).1 (L:=HM c.hn) wI) fun H Q E d=>⟨⟨[],rfl⟩,d⟩) rfl
      ·simp only[hj];exact ah
end
section
variable{cc:CC}{c:FC}{A:VN}{Γ:cM}{k:Nat}{loc loc1:aM}{sc:VZ}{H:AH}{ad:List Addr}{hd:Hid}{s:Vo}{h h':Heap}{fr:List (Addr×Obj)}
variable{D DA:ja}
def fj(h:ez e=some x):∃p,e=.Name x p:=by
 refine sC e fun R hR=>?_;induction e using Expr.casesOn with
 |Name y p=>(injection h with h;subst h);exact hR _ ⟨_,rfl⟩
 |_=>injection h
def zA(h:qF T sc e=some m):∃r rp p,e=.Call (.Name r rp) [m] [] p/\r=("range":Str)/\sc.names.lookup r=some .globalImplicit:=by
 refine sC e fun R hR=>?_;induction e using Expr.casesOn with
 |Call f as kw p=>
  induction f using Expr.casesOn with
  |Name r rp=>
   match as,kw with
   |[],_=>injection h
   |_::_::_,_=>injection h
   |[_],_::_=>injection h
   |[a],[]=>
    delta qF at h;dsimp only at h
    split at h
    ·rename_i hh;simp only[VU,beq_iff_eq]at hh;(injection h with h;subst h);exact hR _ ⟨r,rp,p,rfl,hh.1.1,hh.1.2⟩
    ·injection h
  |_=>injection h
 |_=>injection h
def Fg(I:F_ cc Γ n)(O:aO cc)(ao:bx c A k)(eo:ay c)(S:aN sc c.env.scope)(tp:cp=true->aR c A):
  ∀gs,PE cc Γ c A k loc (.ListComp elt gs csc p) (HE cc.T c.cn sc cp (aF cc.T c.cn false n sc) (aF cc.T c.cn false n csc) elt csc gs)
 |[]=>ah
 |_::_::_=>ah
 |[g]=>by
  obtain⟨tg,it,ifs,asy⟩:=g;show PE cc Γ c A k loc _ (match ez tg with|some x=>_|none=>.bad);induction hx:ez tg using Option.casesOn with
  |none=>exact ah
  |some x=>
   refine cX tg (fj hx) fun xp=>?_;show PE cc Γ c A k loc _ (if(cp&&ny csc sc c.cn&&(csc.names.lookup x==some .local)&&(asy==0))=true then _ else .bad);induction hh:(cp&&ny csc sc c.cn&&(csc.names.lookup x==some .local)&&(asy==0))using Vu with
   |false=>exact ah
   |true=>
    rw[if_pos rfl];simp only[VU,beq_iff_eq]at hh;refine UZ asy hh fun h1 h2 h3=>?_;have inner:∀(e:Expr) (i:Nat) (v:AV) (c':FC),bx c' A k->ay c'->aN csc c'.env.scope->c'.cn=c.cn->c'.cl=c.cl->c'.hn=c.hn->
      aC cc c' A [(i,v)] (eval e c'.env) (ae Γ c.cl k c.hn [(i,v)] (aF cc.T c.cn false n csc e))/\bZ cc c' A [(i,v)] (VM e c'.env (eval e c'.env)) (denT Γ c.cl k c.hn [(i,v)] (aF cc.T c.cn false n csc e)):=fun e i v c' a1 a2 a3 a4 a5 a6=>by
     have:=I.e c' A k csc false [(i,v)] e a1 a2 (fun h=>nomatch h) a3;rw[a4]at this;unfold PE at this;rw[a5,a6]at this;exact this
    match ifs with
    |[]=>
     show PE cc Γ c A k loc _ (match qF cc.T sc it with|some m=>_|none=>.bad);induction hm:qF cc.T sc it using Option.casesOn with
     |none=>exact ah
     |some m=>
      refine Tz it (zA hm) fun r rp q hr hl=>?_;show PE cc Γ c A k loc _ (if aK m=true then _ else .bad);induction hs:aK m using Vu with
      |false=>exact ah
      |true=>
       rw[if_pos rfl];unfold CE;induction hi:pos? x cc.T.nm using Option.casesOn with
       |none=>exact ah
       |some i=>exact bX trivial (zP O eo ao (tp h1) (wm S h2) (pos?_get hi) h3 (cy S hl) hr hs (I.e c A k sc false loc m ao eo (fun h=>nomatch h) S).1 fun c' a1 a2 a3 a4 a5 a6 v=>(inner elt i v c' a1 a2 a3 a4 a5 a6).1) rfl
    |[t]=>
     show PE cc Γ c A k loc _ (if dN it=true then _ else .bad);induction hs:dN it using Vu with
     |false=>exact ah
     |true=>
      rw[if_pos rfl];unfold CE;induction hi:pos? x cc.T.nm using Option.casesOn with
      |none=>exact ah
      |some i=>exact bX trivial (zQ O eo ao (tp h1) (wm S h2) (pos?_get hi) h3 hs (I.e c A k sc false loc it ao eo (fun h=>nomatch h) S).1 (fun c' a1 a2 a3 a4 a5 a6 v=>(inner t i v c' a1 a2 a3 a4 a5 a6).2) fun c' a1 a2 a3 a4 a5 a6 v=>(inner elt i v c' a1 a2 a3 a4 a5 a6).1) rfl
    |_::_::_=>exact ah
def rB(x:Expr)(h:dN x=false):aF T cn cp n sc x=.bad:=by
 induction x using Expr.casesOn with
 |Set es kk p=>induction n using V3<;>rfl
 |_=>injection h
def Tn(X:k_ cc)(O:aO cc)(V:az cc Γ)(MO:pD cc Γ.init)(I:F_ cc Γ n)(c:FC)(A:VN)(k:Nat)(sc:VZ)(cp:Bool)(loc:aM)(e:Expr)(ao:bx c A k)(eo:ay c)(tp:cp=true->aR c A)(S:aN sc c.env.scope):
  PE cc Γ c A k loc e (aF cc.T c.cn cp (n+1) sc e):=by
 have hr:∀e,PE cc Γ c A k loc e (aF cc.T c.cn cp n sc e):=fun e=>I.e c A k sc cp loc e ao eo tp S;have hs:∀es pos,ji cc c A loc (Wq (Wh pos (V1 es c.env))) (denEs Γ c.cl k c.hn loc (compEs cc.T c.cn cp n sc es)):=fun es pos=>I.es c A k sc cp loc es pos ao eo tp S;induction e using Expr.casesOn with
 |Name x p=>exact bX wM (qO O eo S) rfl
 |Constant v kk p=>exact CZ
 |Attribute o a p=>
  show PE cc Γ c A k loc _ (if bU o=true then .bad else _);induction hc:bU o using Vu with
  |true=>exact ah
  |false=>exact Fc hr O hc
 |BinOp l op x p=>
  show PE cc Γ c A k loc _ (match pN op with|some o=>_|none=>.bad);induction ho:pN op using Option.casesOn with
  |none=>exact ah
  |some o=>
   rw[uE ho];exact bX trivial (Fq (hr _).1 (hr _).1) rfl
 |UnaryOp op x p=>
  induction op using UnaryOp.casesOn with
  |Not=>exact⟨Fu (hr _).1,Dl (hr _).2⟩
  |_=>exact ah
 |Compare l ops cs p=>exact Ff hr X ao (fun x h=>rB x h) ops cs
 |BoolOp op vs p=>
  induction op using BoolOp.casesOn with
  |And=>exact⟨(I.an c A k sc cp loc _ _ ao eo tp S).1,(I.an c A k sc cp loc _ _ ao eo tp S).2 _⟩
  |Or=>exact⟨(I.or c A k sc cp loc _ _ ao eo tp S).1,(I.or c A k sc cp loc _ _ ao eo tp S).2 _⟩
 |IfExp t a b p=>exact⟨Ft (hr _).2 (hr _).1 (hr _).1,Dk (hr _).2 (hr _).2 (hr _).2⟩
 |Subscript v i p=>exact J0 hr O V
 |Tuple es kk p=>exact bX trivial (Fw (hs _ _)) rfl
 |List es p=>exact bX trivial (De (hs _ _)) rfl
 |Dict ks vs p=>exact Fh hr O ks vs
 |Call f as kw p=>
  induction kw using Vr with
  |cons _ _=>exact ah
  |nil=>
   induction f using Expr.casesOn with
   |Name f fp=>exact Fd hr hs O V MO ao eo S
   |Attribute o m ap=>exact Fi hr hs O V ao
   |_=>exact ah
 |ListComp elt gs csc p=>exact Fg I O ao eo S tp gs
 |_=>exact ah
theorem iw(X:k_ cc)(O:aO cc)(V:az cc Γ)(MO:pD cc Γ.init):∀n,F_ cc Γ n
 |0=>E3
 |n+1=>by
  have I:=iw X O V MO n;exact⟨Tn X O V MO I,Qy I,Qw I,Qz I⟩
end
section
variable{cc:CC}{c:FC}{A:VN}{Γ:cM}{ct:CT}{k:Nat}{loc loc1:aM}{sc:VZ}{H:AH}{ad:List Addr}{hd:Hid}{s:Vo}{h h':Heap}{fr:List (Addr×Obj)}
variable{D DA:ja}
def aq:bc cc c A t (aj Γ ct c.cl k c.hn .bad):=fun _ _ _ _ _ _ _ _ _ _ d=>Xn d
def QQ(h:bc cc c A t DS)(hd:∀loc H Q E,DS' loc H Q E->DS loc H Q E):bc cc c A t DS':=fun loc H ad hd' s Q E Qr Er F d=>h loc H ad hd' s Q E Qr Er F (hd _ _ _ _ d)
structure QZ(cc:CC)(Γ:cM)(ct:CT)(n:Nat):Prop where
 s:∀(c:FC)(A:VN)(k:Nat)(sc:VZ)(st:Stmt),bx c A k->ay c->aR c A->aN sc c.env.scope->bc cc c A (exec st c.env) (aj Γ ct c.cl k c.hn (mr cc.T c.cn n sc st))
 ss:∀(c:FC)(A:VN)(k:Nat)(sc:VZ)(ss:List Stmt),bx c A k->ay c->aR c A->aN sc c.env.scope->bc cc c A (Wt ss c.env) (aj Γ ct c.cl k c.hn (compSs cc.T c.cn n sc ss))
def E6:QZ cc Γ ct 0 where
 s c A k sc st ao eo tp S:=aq
 ss c A k sc ss ao eo tp S:=aq
def QD(I:QZ cc Γ ct n)(c:FC)(A:VN)(k:Nat)(sc:VZ)(ss:List Stmt)(ao:bx c A k)(eo:ay c)(tp:aR c A)(S:aN sc c.env.scope):
  bc cc c A (Wt ss c.env) (aj Γ ct c.cl k c.hn (compSs cc.T c.cn (n+1) sc ss)):=by
 induction ss using Vr with
 |nil=>exact vC
 |cons x r=>exact n6 (I.s c A k sc x ao eo tp S) (I.ss c A k sc r ao eo tp S)
def tj(S:aN sc c.env.scope)(h:bV cc.T sc x=some i):la cc c i x:=by
 unfold bV at h
 split at h
 ·rename_i hl;exact⟨pos?_get h,vF S (beq_iff_eq.mp hl)⟩
 ·injection h
def AB(X:k_ cc)(O:aO cc)(V:az cc Γ)(MO:pD cc Γ.init)(ao:bx c A k)(eo:ay c)(tp:aR c A)(S:aN sc c.env.scope)(hcomp:bL v=false)
  (hcv:wH t=true->cf v=true) (hval:∀loc,aC cc c A loc (eval v c.env) (ae Γ c.cl k c.hn loc e)):
  bc cc c A (exec (.Assign [t] v pos) c.env) (aj Γ ct c.cl k c.hn (match compT cc.T c.cn n sc t with|.bad=>.bad|tt=>.assign tt e)):=by
 have I:=iw X O V MO n;have IE1:∀e loc,aC cc c A loc (eval e c.env) (ae Γ c.cl k c.hn loc (aF cc.T c.cn true n sc e)):=fun e loc=>(I.e c A k sc true loc e ao eo (fun _=>tp) S).1;induction t using Expr.casesOn with
 |Name x p=>
  unfold compT;dsimp only;induction hl:sc.names.lookup x using Option.casesOn with
  |none=>exact aq
  |some kd=>
   induction kd using ZC with
   |«local»=>
    induction hi:pos? x cc.T.nm using Option.casesOn with
    |none=>exact aq
    |some i=>exact qK O eo (pos?_get hi) (vF S hl) hcomp hval
   |cell=>
    induction hi:pos? x c.cn using Option.casesOn with
    |none=>exact aq
    |some i=>exact qH eo (pos?_get hi) (Fx S hl) hcomp hval
   |_=>exact aq
 |Attribute o a p=>
  unfold compT;dsimp only;induction hi:pos? a cc.T.an using Option.casesOn with
  |none=>exact aq
  |some i=>
   by_cases h8:i<8
   ·simp only[h8,if_true];exact oW O (pos?_get hi) h8 hcomp hval (IE1 o)
   ·simp only[h8,if_false];exact aq
 |Subscript o i p=>
  unfold compT;dsimp only;induction hx:t_ i using Option.casesOn with
  |some x=>
   refine uf i (ua hx) fun kk q=>?_;dsimp only;induction hi:pos? x cc.T.an using Option.casesOn with
   |none=>exact aq
   |some j=>exact qJ O (pos?_get hi) hcomp hval (IE1 _)
  |none=>
   induction i using Expr.casesOn with
   |Slice _ _ _ _=>exact aq
   |_=>exact qI hcomp hval (IE1 _) (IE1 _)
 |Tuple es kk p=>
  unfold compT;dsimp only;induction hl:dg cc.T sc es using Option.casesOn with
  |none=>exact aq
  |some l=>exact qL O eo ao S hl hcomp (hcv rfl) hval
 |_=>exact aq
def xc(eo:ay c)(hk:c.env.scope.names.lookup w=some .local)(h:nx (.ListComp elt [⟨.Tuple [.Name y yp,.Name z zp] kk tpp,src,[],0⟩] csc pos) wp w=true):
  ∀l,swapsWith (.ListComp elt [⟨.Tuple [.Name y yp,.Name z zp] kk tpp,src,[],0⟩] csc pos) (some (.Name w wp)) l c.env=pure true:=by
 intro l;unfold nx at h;rw[VU]at h;have e1:(c.env.blockKind==.function)=true:=by unfold Env.blockKind;rw[eo.kind];rfl
 have e2:(c.env.kindOf w==some .local)=true:=by unfold Env.kindOf;rw[hk];rfl
 have e3:(wp.line==pos.line)=true:=by rw[beq_iff_eq]at h⊢;exact h.1.symm
 show pure (c.env.blockKind==.function&&c.env.kindOf w==some .local&&wp.line==pos.line&& !(csc.names.any fun(n,k)=>n==w&&(k==.local||k==.cell)))=(pure true:Sem Bool);rw[e1,e2,e3];exact congrArg pure h.2
def u2(h:u1 sc x=true):x=("LuaError":Str)/\sc.names.lookup x=some .globalImplicit:=by
 simp only[u1,VU,beq_iff_eq]at h;exact h
def E2(h:EZ sc e=true):∃np b kk kp cp,e=.Call (.Name (Vg "LuaError") np) [.Constant (.bytes b) kk kp] [] cp/\sc.names.lookup (Vg "LuaError")=some .globalImplicit:=by
 refine sC e fun R hR=>?_;induction e using Expr.casesOn with
 |Call f as kw p=>
  induction f using Expr.casesOn with
  |Name x np=>
   induction as using Vr with
   |nil=>injection h
   |cons a as=>
   induction as using Vr with
   |cons _ _=>injection h
   |nil=>
   induction kw using Vr with
   |cons _ _=>injection h
   |nil=>
    obtain⟨h1,h2⟩:=VS.mp (show(u1 sc x&&_)=true from h);obtain⟨rfl,hl⟩:=u2 h1;induction a using Expr.casesOn with
    |Constant v kk kp=>
     induction v using XN with
     |bytes b=>exact hR _ ⟨_,_,_,_,_,rfl,hl⟩
     |_=>injection h2
    |_=>injection h2
  |_=>injection h
 |_=>injection h
def yi(h:vh sc hs=some b):∃np h0 hb hp,b=h0::hb/\hs=[.ExceptHandler (some (.Name (Vg "LuaError") np)) none (h0::hb) hp]/\sc.names.lookup (Vg "LuaError")=some .globalImplicit:=by
 match hs with
 |[]=>injection h
 |.ExceptHandler _ _ _ _::_::_=>injection h
 |[.ExceptHandler t nm bb hp]=>
  induction t using Option.casesOn with
  |none=>injection h
  |some t=>
   delta vh at h;dsimp only at h;induction hx:ez t using Option.casesOn with
   |none=>rw[hx]at h;injection h
   |some x=>
    rw[hx]at h;refine cX t (fj hx) fun np=>?_
    revert h
    refine nL (P:=fun z=>z=_->_) (fun hh h=>?_) fun _ h=>by injection h
    ·simp only[VU]at hh;refine Ur hh fun h1 h2 h3=>?_;obtain⟨rfl,hl⟩:=u2 h1;induction nm using Option.casesOn with
     |some _=>injection h2
     |none=>
      induction bb using Vr with
      |nil=>injection h3
      |cons h0 hb=>(injection h with h;subst h);exact⟨np,h0,hb,hp,rfl,rfl,hl⟩
def CY(h:vt t=some (x,y)):∃xp yp kk tp,t=.Tuple [.Name x xp,.Name y yp] kk tp:=by
 refine sC t fun R hR=>?_;induction t using Expr.casesOn with
 |Tuple es kk tp=>
  induction es using Vr with
  |nil=>injection h
  |cons u es=>
  induction es using Vr with
  |nil=>injection h
  |cons v es=>
  induction es using Vr with
  |cons _ _=>injection h
  |nil=>
   dsimp only[vt]at h;induction hu:ez u using Option.casesOn with
   |none=>rw[hu]at h;injection h
   |some x'=>
    induction hv:ez v using Option.casesOn with
    |none=>rw[hu,hv]at h;injection h
    |some y'=>
     rw[hu,hv]at h;cases h;refine cX u (fj hu) fun xp=>?_;refine cX v (fj hv) fun yp=>?_;exact hR _ ⟨xp,yp,kk,tp,rfl⟩
 |_=>injection h
def CX(h:CV gs=some (y,z,src)):∃yp zp kk tp,gs=[⟨.Tuple [.Name y yp,.Name z zp] kk tp,src,[],0⟩]:=by
 refine sC gs fun R hR=>?_;induction gs using Vr with
 |nil=>injection h
 |cons g gs=>
 induction gs using Vr with
 |cons _ _=>injection h
 |nil=>
  obtain⟨tg,it,ifs,asy⟩:=g
  revert h
  refine nL (P:=fun z=>z=_->_) (fun hh h=>?_) fun _ h=>by injection h
  ·simp only[VU,beq_iff_eq]at hh;refine TF asy hh fun h2=>?_;induction ifs using Vr with
   |cons _ _=>injection h2
   |nil=>
    induction tg using Expr.casesOn with
    |Tuple es kk tp=>
     induction es using Vr with
     |nil=>injection h
     |cons u es=>
     induction es using Vr with
     |nil=>injection h
     |cons v es=>
     induction es using Vr with
     |cons _ _=>injection h
     |nil=>
      dsimp only at h;induction hu:ez u using Option.casesOn with
      |none=>rw[hu]at h;injection h
      |some x'=>
       induction hv:ez v using Option.casesOn with
       |none=>rw[hu,hv]at h;injection h
       |some y'=>
        rw[hu,hv]at h;cases h;refine cX u (fj hu) fun xp=>?_;refine cX v (fj hv) fun yp=>?_;exact hR _ ⟨xp,yp,kk,tp,rfl⟩
    |_=>injection h
def D5(M:F_ cc Γ n)(O:aO cc)(ao:bx c A k)(eo:ay c)(tp:aR c A)(S:aN sc c.env.scope):
  bc cc c A (exec (.Assign [t] v pos) c.env) (aj Γ ct c.cl k c.hn (Bu cc.T c.cn sc (aF cc.T c.cn false n sc) (aF cc.T c.cn false n) t v)):=by
 induction t using Expr.casesOn with
 |Name x xp=>
  induction v using Expr.casesOn with
  |ListComp elt gs csc cpos=>
   delta Bu;dsimp only;induction hg:CV gs using Option.casesOn with
   |none=>exact aq
   |some p=>
    obtain⟨y,z,src⟩:=p;refine z9 gs (CX hg) fun yp zp kk tpp=>?_;dsimp only;induction hi:bV cc.T sc x using Option.casesOn with
    |none=>exact aq
    |some i=>
     refine nL (P:=fun z=>bc cc c A _ (aj Γ ct c.cl k c.hn z)) (fun hh=>?_) fun _=>aq
     ·simp only[VU,beq_iff_eq]at hh;refine U0 hh fun h1 h2 h3 h4 h5=>?_;induction ha:pos? y cc.T.nm using Option.casesOn with
      |none=>exact aq
      |some a=>
       induction hb:pos? z cc.T.nm using Option.casesOn with
       |none=>exact aq
       |some b=>
        have hw:=tj (c:=c) S hi;exact w6 O eo ao tp (wm S h2) (pos?_get ha) h4 (pos?_get hb) h5 hw h3 (xc eo hw.lo h1 _) (fun loc=>(M.e c A k sc false loc src ao eo (fun h=>nomatch h) S).1)
         (DE:=fun u v=>ae Γ c.cl k c.hn [(b,v),(a,u)] (aF cc.T c.cn false n csc elt)) fun c' a1 a2 a3 a4 a5 a6 u v=>by
          have:=(M.e c' A k csc false [(b,v),(a,u)] elt a1 a2 (fun h=>nomatch h) a3).1;rw[a4,a5,a6]at this;exact this
  |_=>exact aq
 |_=>exact aq
def To(X:k_ cc)(O:aO cc)(LO:kD cc)(V:az cc Γ)(MO:pD cc Γ.init)(I:QZ cc Γ ct n)(c:FC)(A:VN)(k:Nat)(sc:VZ)(st:Stmt)(ao:bx c A k)(eo:ay c)(tp:aR c A)(S:aN sc c.env.scope):
  bc cc c A (exec st c.env) (aj Γ ct c.cl k c.hn (mr cc.T c.cn (n+1) sc st)):=by
 have M:=iw X O V MO n;have IE1:∀e loc,PE cc Γ c A k loc e (aF cc.T c.cn true n sc e):=fun e loc=>M.e c A k sc true loc e ao eo (fun _=>tp) S;have ISs:∀ss,bc cc c A (Wt ss c.env) (aj Γ ct c.cl k c.hn (compSs cc.T c.cn n sc ss)):=fun ss=>I.ss c A k sc ss ao eo tp S;induction st using Stmt.casesOn with
 |Return v p=>
  induction v using Option.casesOn with
  |some e=>exact C8 fun loc=>(IE1 _ loc).1
  |none=>exact zL
 |Assign ts v p=>
  match ts with
  |[]=>exact aq
  |_::_::_=>exact aq
  |[t]=>
   show bc cc c A _ (aj Γ ct c.cl k c.hn (if bL v=true then _ else if(!wH t||cf v)=true then _ else .bad));induction hcomp:bL v using Vu with
   |true=>exact D5 M O ao eo tp S
   |false=>
    rw[if_neg V9];refine nL (P:=fun z=>bc cc c A _ (aj Γ ct c.cl k c.hn z)) (fun hcv=>?_) fun _=>aq
    ·exact AB X O V MO (n:=n) ao eo tp S hcomp (fun z=>by rw[z]at hcv;exact hcv) fun loc=>(IE1 v loc).1
 |AugAssign t op e p=>
  show bc cc c A _ (aj Γ ct c.cl k c.hn (match pN op with|some o=>_|none=>.bad));induction ho:pN op using Option.casesOn with
  |none=>exact aq
  |some o=>
   rw[uE ho];induction t using Expr.casesOn with
   |Name x xp=>
    show bc cc c A _ (aj Γ ct c.cl k c.hn (match bV cc.T sc x with|some i=>_|none=>.bad));induction hi:bV cc.T sc x using Option.casesOn with
    |none=>exact aq
    |some i=>
     have hx:=tj (c:=c) S hi;exact zG O eo hx.nm hx.lo fun loc=>(IE1 e loc).1
   |Attribute u a ap=>
    show bc cc c A _ (aj Γ ct c.cl k c.hn (match pos? a cc.T.an with|some i=>if i<8 then _ else .bad|none=>.bad));induction hi:pos? a cc.T.an using Option.casesOn with
    |none=>exact aq
    |some i=>
     refine nL (P:=fun z=>bc cc c A _ (aj Γ ct c.cl k c.hn z)) (fun h8=>?_) fun _=>aq
     ·exact zF O (pos?_get hi) h8 (fun loc=>(IE1 _ loc).1) (fun loc=>(IE1 _ loc).1)
   |_=>exact aq
 |If t a b p=>exact Fp (fun loc=>(IE1 _ loc).2) (ISs _) (ISs _)
 |While t b o p=>
  induction o using Vr with
  |nil=>exact w8 (fun loc=>(IE1 _ loc).2) (ISs _)
  |cons _ _=>exact aq
 |For t src b o p=>
  induction o using Vr with
  |cons _ _=>exact aq
  |nil=>
   show bc cc c A _ (aj Γ ct c.cl k c.hn (match vt t with|some (x,y)=>_|none=>.bad));induction ht:vt t using Option.casesOn with
   |none=>exact aq
   |some q=>
    obtain⟨x,y⟩:=q;refine z9 t (CY ht) fun xp yp kk tpp=>?_;dsimp only;induction hi:bV cc.T sc x using Option.casesOn with
    |none=>exact aq
    |some i=>
     induction hj:bV cc.T sc y using Option.casesOn with
     |none=>exact aq
     |some j=>
      induction hs:dN src using Vu with
      |true=>exact zJ O eo ao (tj (c:=c) S hi) (tj (c:=c) S hj) hs (fun loc=>(IE1 src loc).1) (DB:=aj Γ ct c.cl k c.hn (compSs cc.T c.cn n sc b)) fun I0 oI=>I.ss {c with fr:=(I0,oI)::c.fr} A k sc b ao.addFr ⟨eo.kind,eo.globals,eo.builtins⟩ ⟨tp.top,tp.frame⟩ S
      |false=>
       intro loc H ad hd s Q E Qr Er F d;have d:aj Γ ct c.cl k c.hn (.forP i j (aF cc.T c.cn true n sc src) (compSs cc.T c.cn n sc b)) loc H Q E:=d;rw[rB src hs]at d;exact Xn d
 |Expr e p=>
  show bc cc c A _ (aj Γ ct c.cl k c.hn (if(bL e||qt e)=true then .bad else _));induction hc:(bL e||qt e)using Vu with
  |true=>exact aq
  |false=>
   rw[XF]at hc;exact zI eo hc.1 fun loc=>(IE1 _ loc).1
 |Raise e cs p=>
  induction cs using Option.casesOn with
  |some _=>exact aq
  |none=>
   induction e using Option.casesOn with
   |none=>exact aq
   |some e=>
    show bc cc c A _ (aj Γ ct c.cl k c.hn (if EZ sc e=true then .raise else .bad));induction hh:EZ sc e using Vu with
    |false=>exact aq
    |true=>
     refine U1 e (E2 hh) fun np b kk kp cp hl=>?_;exact w7 O LO eo ao (cy S hl)
 |Try b hs o f p=>
  induction o using Vr with
  |cons _ _=>exact aq
  |nil=>
   induction f using Vr with
   |cons _ _=>exact aq
   |nil=>
    show bc cc c A _ (aj Γ ct c.cl k c.hn (match vh sc hs with|some h=>_|none=>.bad));induction hh:vh sc hs using Option.casesOn with
    |none=>exact aq
    |some hb=>
     obtain⟨np,h0,hb,hp,rfl,rfl,hl⟩:=yi hh;exact C9 O LO eo ao tp (cy S hl) (ISs _) (DSb:=aj Γ ct c.cl k false (compSs cc.T c.cn n sc (h0::hb))) fun ea=>I.ss {c with hn:=false,hd0:=some ea} (A.mark (some (.ref ea))) k sc _ (ao.mark rfl) ⟨eo.kind,eo.globals,eo.builtins⟩ ⟨tp.top,tp.frame⟩ S
 |Break p=>exact C7
 |Continue p=>exact zH
 |Pass p=>exact zK
 |_=>exact aq
theorem lM(X:k_ cc)(O:aO cc)(LO:kD cc)(V:az cc Γ)(MO:pD cc Γ.init):∀n,QZ cc Γ ct n
 |0=>E6
 |n+1=>by
  have I:=lM X O LO V MO n;exact⟨To X O LO V MO I,QD I⟩
end
end Mine
end
section
namespace Mine
open PySem PySem.W PyProof.Rows PySem.Calls
open Sem (wp)
section
set_option backward.match.sparseCases true
noncomputable def okIds:List String:=["bytearray.append","bytearray.extend","bytearray.__init__","bytearray.__new__","type.__call__","claim.caller"]
noncomputable def pS:Code->Bool
 |.builtin id _=>okIds.contains id
 |_=>true
def sv(l:List (Code×Pos)):Prop:=∀x∈l,pS x.1=true
def bg{α:Type}(M:Model)(A:VN)(t:Sem α)(Q:α->Vo->Prop)(E:Vq->Vo->Prop)(s:Vo):Prop:=
 ∀Γ p,Γ.In A->pS Γ.code=true->sv Γ.below->wp M Γ t (fun a _ s'=>Q a s') (fun e _ s'=>E e s') p s
def bE(M:Model)(A:VN)(c:Code)(R:Xu->Vo->Prop)(s:Vo):Prop:=
 ∀Γ p,Γ.code=c->Γ.Below A->sv Γ.below->wpCode M Γ R p s
section
variable{α β:Type}{M:Model}{A:VN}{E:Vq->Vo->Prop}{s:Vo}{env:Env}{prog:WU}{w:XC}
def bw(h:Vy M A t Q E s):bg M A t Q E s:=fun Γ p hΓ _ _=>h Γ p hΓ
def uM(h:Yj M A c R s):bE M A c R s:=fun Γ p hc hΓ _=>h Γ p hc hΓ
def ai(h:Q a s):bg M A (pure a) Q E s:=fun _ _ _ _ _=>h
def aT(h:bg M A t Q E s)(hQ:∀a s,Q a s->Q' a s)(hE:∀e s,E e s->E' e s):bg M A t Q' E' s:=
 fun Γ p hΓ h1 h2=>Zr M Γ t (fun a _ s=>hQ a s) (fun e _ s=>hE e s) p s (h Γ p hΓ h1 h2)
def ag{m:Sem α}{f:α->Sem β}{Q:β->Vo->Prop}(h:bg M A m (fun a s'=>bg M A (f a) Q E s') E s):bg M A (m>>=f) Q E s:=fun Γ p hΓ h1 h2=>by
 rw[Sem.wp_bind'];exact Zr M Γ m (fun a p' s' h'=>h' Γ p' hΓ h1 h2) (fun _ _ _ h'=>h') p s (h Γ p hΓ h1 h2)
def af(h:Vy M A m (fun a s'=>bg M A (f a) Q E s') E s):bg M A (m>>=f) Q E s:=ag (bw h)
def j8
  (h:bg M A m Q (fun e s'=>bg M A (k e) (fun _ s''=>E e s'') E s') s):bg M A (m.onRaise k) Q E s:=fun Γ p hΓ h1 h2=>by
 rw[Sem.wp_onRaise];exact Zr M Γ m (fun _ _ _ h'=>h') (fun e p' s' h'=>h' Γ p' hΓ h1 h2) p s (h Γ p hΓ h1 h2)
def vU{Q:Except Vq α->Vo->Prop}(h:bg M A m (fun a=>Q (.ok a)) (fun e=>Q (.error e)) s):bg M A m.attempt Q E s:=fun Γ p hΓ h1 h2=>by
 rw[Sem.wp_attempt];exact h Γ p hΓ h1 h2
def bo(h:bg M A m Q E s):bg M A (holding vs m) Q E s:=fun Γ p hΓ h1 h2=>by
 rw[Sem.wp_holding];exact h Γ p hΓ h1 h2
def cA [Decidable c](h1:c->bg M A a Q E s)(h2:¬c->bg M A b Q E s):bg M A (if c then a else b) Q E s:=by
 split
 ·exact h1 ‹_›
 ·exact h2 ‹_›
def dP(e:m=pure a)(h:Q a s):bg M A m Q E s:=e▸ai h
def mo{Γ:Ctx}(h1:pS Γ.code=true)(h2:sv Γ.below):sv (Γ.enter c hd p).below:=by
 intro x hx;rcases Vv.mp (show x∈(Γ.code,p)::Γ.below from hx)with rfl|hx
 ·exact h1
 ·exact h2 x hx
def runN
  (hc:bE M (A.mark h) c (fun r s'=>match r with|.ok f=>Q f s'|.error e=>E e s') s)(hnb:h≠some byPass:=by intro x;injection x):
  bg M A (run c h) Q E s:=fun Γ p hΓ h1 h2=>by
 rw[Sem.wp_run];exact hc _ p rfl (hΓ.enter c h p hnb) (mo h1 h2)
def zC(hc:bE M A c (fun r s'=>match r with|.ok (.ret v)=>Q v s'|.ok _=>False|.error e=>E e s') s):
  bg M A (runValue c) Q E s:=fun Γ p hΓ h1 h2=>by
 rw[Sem.wp_runValue];exact hc _ p rfl (hΓ.enter c none p (by intro x;injection x)) (mo h1 h2)
def rz
  (hc:bE M A (.call f ⟨pos,kw⟩) (fun r s'=>match r with|.ok (.ret v)=>Q v s'|.ok _=>False|.error e=>E e s') s):bg M A (call f pos kw) Q E s:=zC hc
def pV(h:bE M A c R s)(hR:∀r s,R r s->R' r s):bE M A c R' s:=
 fun Γ p hc hΓ h2=>wpCode_mono hR (h Γ p hc hΓ h2)
def b7(hcl:pS c=true)
  (h:bg M (A.under c) (M.den c) (fun fin s'=>match fin with|.done f=>R (.ok f) s'|.again c'=>c'.quiet=true/\bE M A c' R s') (fun e s'=>R (.error e) s') s):
  bE M A c R s:=fun Γ p hc hΓ h2=>by
 rw[wpCode_iff_wp,hc];refine Zr M Γ _ (fun fin p' s' h'=>?_) (fun _ _ _ h'=>h') p s (h Γ p (hc▸hΓ.in) (by rw[hc];exact hcl) h2);cases fin with
 |done f=>exact h'
 |again c'=>exact⟨h'.1,h'.2 (Γ.goto c') p' rfl (hΓ.goto c') h2⟩
def wk(hcl:pS c=true)(hq:c.quiet=true)(I:Nat->Vo->Prop)
  (turn:∀n s,I n s->bg M (A.under c) (M.den c)
   (fun fin s'=>match fin with|.done f=>R (.ok f) s'|.again c'=>c'=c/\∃m,m<n/\I m s') (fun e s'=>R (.error e) s') s)
  (n:Nat)(h:I n s):bE M A c R s:=by
 induction n using Nat.strongRecOn generalizing s with
 |ind n ih=>
  refine b7 hcl (aT (turn n s h) (fun fin s' hf=>?_) fun _ _ h'=>h');cases fin with
  |done f=>exact hf
  |again c'=>refine U2 c' hf fun m hm hI=>?_;exact⟨hq,ih m hm hI⟩
def tD
  (hc:bE M (A.mark h) c (fun r s'=>match r with|.ok f=>Q f s'|.error e=>Z' M A env E e s') s)(hnb:h≠some byPass:=by intro x;injection x):
  bg M A (runOwn c env h) Q E s:=by
 unfold runOwn;exact j8 (aT (runN hc hnb) (fun _ _ x=>x) fun _ _ x=>bw x)
def CM(h:bg M A m Q (Y8 M A env E) s):bg M A (m.onRaise fun x=>do Xr x env;theTreesLotGoes x) Q E s:=
 j8 (aT h (fun _ _ q=>q) fun _ _ hx=>bw (Vi (W3 hx (fun _ _ e=>wpAny_theTreesLotGoes e) fun _ _ e=>e)))
def yl(hE:Xv M A env E)(h:bg M A t Q E s):bg M A t Q (Y8 M A env (Z' M A env E)) s:=
 aT h (fun _ _ x=>x) hE
def jt{st:Stmt}
  (h:bg M A (exec st env) (fun f s'=>match f with|.next=>bg M A (Wt rest env) Q E s'|f=>Q f s') E s):bg M A (Wt (st::rest) env) Q E s:=by
 rw[execs_cons];refine ag (aT h (fun f s' h'=>?_) fun _ _ x=>x);induction f using YF<;>first|exact h'|exact ai h'
def Uz
  (h:bg M A (isTrue test env (eval test env)) (fun b s₂=>if b then bg M A (Wt body env) Q E s₂ else bg M A (Wt orelse env) Q E s₂) E s):
  bg M A (exec (.If test body orelse pos) env) Q E s:=by
 rw[exec_If];refine af (VY (ag (aT h (fun b s' h'=>?_) fun _ _ x=>x)));induction b using Vu<;>exact h'
def H_
  (h:bE M A (.whileLoop test body orelse env) (fun r s'=>match r with|.ok f=>Q f s'|.error e=>Z' M A env E e s') s):
  bg M A (exec (.While test body orelse pos) env) Q E s:=by
 rw[exec_While];exact af (VY (tD h))
def xm(I:Nat->Vo->Prop)
  (turn:∀n s,I n s->
   bg (Vt prog w) A (isTrue test env (eval test env)) (fun b s₂=>
    if b then bg (Vt prog w) A (Wt body env) (fun f s₃=>match f with
      |.next|.cont=>∃m,m<n/\I m s₃
      |.brk=>R (.ok .next) s₃
      |.ret v=>R (.ok (.ret v)) s₃) (Y8 (Vt prog w) A env fun e s'=>R (.error e) s') s₂
    else bg (Vt prog w) A (Wt orelse env) (fun f s₃=>R (.ok f) s₃) (Y8 (Vt prog w) A env fun e s'=>R (.error e) s') s₂)
    (Y8 (Vt prog w) A env fun e s'=>R (.error e) s') s)
  (n:Nat)(h:I n s):bE (Vt prog w) A (.whileLoop test body orelse env) R s:=by
 refine wk rfl rfl I (fun n s hI=>?_) n h;show bg _ A ((whileTurn test body orelse env).onRaise (fun x=>do Xr x env;theTreesLotGoes x)) _ _ s;refine CM ?_;simp only[whileTurn];refine ag (aT (turn n s hI) (fun b s₂ h₂=>?_) fun _ _ h'=>h');induction b using Vu with
 |false=>
  simp only[V0,if_false]at h₂⊢;exact ag (aT h₂ (fun f s₃ h₃=>ai h₃) fun _ _ h'=>h')
 |true=>
  simp only[if_true]at h₂⊢;refine ag (aT h₂ (fun f s₃ h₃=>?_) fun _ _ h'=>h');induction f using YF with
  |next=>exact ai ⟨rfl,h₃⟩
  |cont=>exact ai ⟨rfl,h₃⟩
  |brk=>exact ai h₃
  |ret v=>exact ai h₃
def Kr{h₀:ExceptHandler}
  (h:bg (Vt prog w) A (Wt body env) (fun f s₁=>match f with|.next=>bg (Vt prog w) A (Wt orelse env) Q E s₁|f=>Q f s₁)
   (fun e s₁=>Vy (Vt prog w) A (Xr e env) (fun _ s₂=>Vy (Vt prog w) A (XR e none) (fun _ s₃=>bg (Vt prog w) A (ZH e env (h₀::hs)) Q E s₃) E s₂) E s₁) s):
  bg (Vt prog w) A (exec (.Try body (h₀::hs) orelse [] pos) env) Q E s:=by
 rw[arm_exec_Try];refine af (VY ?_);delta tryStmt;dsimp only;rw[if_pos (show([]:List Stmt).isEmpty=true from rfl)];refine ag (vU (aT h (fun f s₁ h₁=>?_) fun e s₁ h₁=>?_))
 ·induction f using YF<;>first|exact h₁|exact ai h₁
 ·exact af (W3 h₁ (fun _ _ h₂=>af h₂) fun _ _ x=>x)
def xT
  (h:bE M (A.mark (some e)) (.handlers e [.ExceptHandler (some t) none [] pos] env) (fun r s₁=>match r with
   |.ok .brk=>bE M (A.mark (some e)) (.handlers e [.ExceptHandler none none body pos] env) (fun r s₂=>match r with
     |.ok f=>Q f s₂
     |.error x=>Z' M A env E x s₂) s₁
   |.ok _=>bg M A (ZH e env rest) Q E s₁
   |.error x=>Z' M A env E x s₁) s)(hnb:e≠byPass):
  bg M A (ZH e env (.ExceptHandler (some t) none body pos::rest)) Q E s:=by
 rw[ZH];have hnb':(some e:Option Vq)≠some byPass:=fun x=>hnb (XE x);refine ag (bo (tD (pV h (fun r s₁ h₁=>?_)) hnb'));induction r using Except.casesOn with
 |error x=>exact h₁
 |ok f=>
  induction f using YF with
  |brk=>
   refine ag (ai ?_);simp only[Bool.not_true,V0,if_false];refine ag (bo (tD (pV h₁ (fun r s₂ h₂=>?_)) hnb'));induction r using Except.casesOn with
   |error x=>exact h₂
   |ok f=>exact ai h₂
  |next=>exact ag (ai h₁)
  |cont=>exact ag (ai h₁)
  |ret v=>exact ag (ai h₁)
def Dh
  (h:bg (Vt prog w) A (XR e none) (fun _ s₁=>bg (Vt prog w) A (Wt (b₀::body) env) (fun f s₂=>R (.ok f) s₂) (Y8 (Vt prog w) A env fun x s₂=>R (.error x) s₂) s₁) (Y8 (Vt prog w) A env fun x s₁=>R (.error x) s₁) s):
  bE (Vt prog w) A (.handlers e [.ExceptHandler none none (b₀::body) pos] env) R s:=by
 refine b7 rfl ?_;show bg _ A (do return Fin.done (←(handleWith e env [.ExceptHandler none none (b₀::body) pos]).onRaise (fun x=>do Xr x env;theTreesLotGoes x))) _ _ s;refine ag (CM ?_);unfold handleWith;exact af (VY (ag (aT h (fun _ s₁ h₁=>aT h₁ (fun f s₂ h₂=>ai h₂) fun _ _ x=>x) fun _ _ x=>x)))
def Cj
  (h:bg (Vt prog w) (A.deeper env) (Wt body env) (fun f s'=>R (.ok (.ret (match f with|.ret v=>v|_=>.none))) s')
   (fun e s'=>Vy (Vt prog w) (A.deeper env) (Yz env e) (fun _ s''=>R (.error e) s'') (fun e' s''=>R (.error e') s'') s') s):
  bE (Vt prog w) A (.func body env) R s:=by
 refine b7 rfl ?_;show bg _ (A.deeper env) (do point;match←(Wt body env).onRaise (Yz env)with|.ret v=>ret v|_=>ret .none) _ _ s;refine af (wpAny_point (ag (j8 (aT h (fun f s' h'=>?_) fun _ _ h'=>bw h'))));induction f using YF<;>exact ai h'
def eK(hroom:A.depth<WC)
  (ho:s.heap.get? a=some o)(hd':o.data=.func fd)(hco:fd.scope.isCoroutine=false)(hgen:fd.scope.isGenerator=false)(hbody:fd.body=.stmts body)(hcd:s.heap.CodeRec fd.code fd.qualname)
  (h:Vy (Vt prog w) A.in1 (V5 fd args) (fun binds s₁=>
   Vy (Vt prog w) A.in1 (Yi fd.scope fd.globals fd.closure binds (fd.qualname++".<locals>.") (some a) fd.code none fd.builtins)
    (fun env s₂=>s₂.heap.NoLimit/\bE (Vt prog w) A (.func body env) R s₂) (fun e s'=>R (.error e) s') s₁) (fun e s'=>R (.error e) s') s):
  bE (Vt prog w) A (.call (.ref a) args) R s:=by
 refine b7 rfl ?_;show bg _ A.in1 (callAny (.ref a) args) _ _ s;delta callAny;dsimp only;refine af (XK ho ?_);refine TC hcd fun c oc vs tq hc hoc hdc hq=>?_;simp only[hd',callFunction,hco,hgen,hbody,hc];rw[hc]at h;refine af (m:=field (.ref c) 1) (WA hoc hdc hq (af (Vp ?_)));exact af (W3 h (fun binds s₁ h₁=>af (W3 h₁ (fun env s₂ h₂=>af (wpAny_enterFrame h₂.1 hroom
  (ai (And.intro rfl h₂.2)))) fun _ _ h'=>h')) fun _ _ h'=>h')
def yV
  (hroom:A.depth<WC)(ho:s.heap.get? a=some o)(hdata:o.data=.func fd)(hlim:s.heap.NoLimit)(hcd:s.heap.CodeRec fd.code fd.qualname)
  (hbody:fd.body=.stmts body)(hbind:Xp s fd args binds)
  (hcell:∀x∈fd.scope.names,x.2≠.cell) (hloc:∀x∈binds,fd.scope.names.lookup x.1=some .local)
  (h:∀h₀,h₀.Ns s.heap.objs.size (fun x=>binds.reverse.lookup x)->(∀b o,s.heap.get? b=some o->h₀.get? b=some o)->
   bg (Vt prog w) (A.deeper (Wi fd s.heap.objs.size a)) (Wt body (Wi fd s.heap.objs.size a)) (fun f s'=>R (.ok (.ret (match f with|.ret v=>v|_=>.none))) s')
    (fun e s'=>Vy (Vt prog w) (A.deeper (Wi fd s.heap.objs.size a)) (Yz (Wi fd s.heap.objs.size a) e) (fun _ s''=>R (.error e) s'') (fun e' s''=>R (.error e') s'') s')
    {s with heap:=h₀,toks:=s.toks+binds.length})
  (hco:fd.scope.isCoroutine=false:=by rfl) (hgen:fd.scope.isGenerator=false:=by rfl) (hk:fd.scope.kind=.function:=by rfl):
  bE (Vt prog w) A (.call (.ref a) args) R s:=by
 refine eK hroom ho hdata hco hgen hbody hcd (hbind _ _ _ _ ?_);refine wpAny_newFunctionEnv hcell hloc (fun h₀ hns₀ hsb₀=>⟨hlim.fresh _ hsb₀,Cj (h h₀ hns₀ fun b o e=>?_)⟩) hk;exact hsb₀.extBut b o (WO (Wb e)) (Vx _ e)
end
set_option backward.match.sparseCases false
set_option backward.match.sparseCases true
section
variable{α β:Type}{M:Model}{A:VN}{E:Vq->Vo->Prop}{s:Vo}{env:Env}{prog:WU}{w:XC}
noncomputable def Kp(self:Vq):Code×Pos->Bool
  |(.builtin "bytearray.__contains__" ⟨v::_,_⟩,_)|(.builtin "bytearray.__mod__" ⟨v::_,_⟩,_)
  |(.builtin "bytearray.__rmod__" ⟨_::v::_,_⟩,_)|(.builtin "_struct.pack_into.held" ⟨v::_,_⟩,_)=>YM v self
  |(.builtin "bytearray.find.held" ⟨_::_::held,_⟩,_)=>held.any (YM self)
  |(.builtin id ⟨v::_,_⟩,_)=>YM v self&&Builtin.Bytes.decodersThatHold.contains id
  |_=>false
def Ic(h:b=false):(a&&b)=false:=h▸Bool.and_false a
def EN:∀id∈okIds,Kp self (.builtin id args,p)=false:=by
 obtain⟨l,kw⟩:=args;refine Xb.mpr ⟨?_,Xb.mpr ⟨?_,Xb.mpr ⟨?_,Xb.mpr ⟨?_,Xb.mpr ⟨?_,Xb.mpr ⟨?_,fun _ h=>nomatch h⟩⟩⟩⟩⟩⟩
 all_goals
  induction l using Vr with
  |nil=>rfl
  |cons a l=>exact Ic (by decide+kernel)
def BA(h:pS c=true):Kp self (c,p)=false:=by
 induction c using Code.casesOn with
 |builtin id args=>exact EN _ (List.contains_iff_mem.mp h)
 |_=>rfl
def rJ(q:Q false s):bg M A (ZZ self) Q E s:=fun Γ p hΓ h1 h2=>by
 have hall:∀x∈(Γ.code,p)::Γ.below,pS x.1=true:=fun x hx=>by
  rcases Vv.mp hx with rfl|hx
  ·exact h1
  ·exact h2 x hx
 unfold ZZ;have hq:∀b,b=false->Q b s:=fun b e=>by rw[e];exact q
 refine hq _ (ZQ.mpr fun x hx=>?_);rw[Xj];exact BA (self:=self) (p:=x.2) (hall x hx)
def vG{id:String}(q:Q (a,b) s):Vy M A (selfAndOne id ⟨[a,b],[]⟩) Q E s:=by
 obtain⟨hp,g,d,tk,os⟩:=s;unfold selfAndOne;wp_walk;exact q
noncomputable abbrev dW(b:Array UInt8):Obj:={cls:=.type "bytearray",data:=.bytearray b 0}
def yq(ho:s.heap.get? l=some (dW b))(q:Q () s):bg M A (Ym (.ref l)) Q E s:=by
 unfold Ym;refine ag ?_;show bg M A (orM _ _) _ _ _;unfold orM;refine ag (rJ ?_);refine ag ?_;unfold ZR;refine af (XK ho ?_);refine ai (ai ?_);refine cA (fun h=>absurd h (by decide)) (fun _=>ai q)
def qW(ho:s.heap.get? l=some (dW b))(hz:(f b).size<=sizeLine)
  (q:∀h',Wa l s.heap h'->h'.get? l=some (dW (f b))->Q () {s with heap:=h'}):Vy M A (Y0 (.ref l) f) Q E s:=by
 show Vy _ _ (updateBytearray l f) _ _ _;unfold updateBytearray;refine Vi (XK ho ?_);show Vy _ _ (update l (Obj.mapBytearray f)>>=fun _=>lookBehind l) _ _ _;refine Vi (wpAny_update ho ?_);have h2:(s.heap.update l (Obj.mapBytearray f)).get? l=some (dW (f b)):=WL (Obj.mapBytearray f) ho rfl;refine wpAny_lookBehind h2 ?_ (q _ (Xx ..).extBut h2);show(if(f b).size>sizeLine then some "bytearray:memory"else none)=none;rw[if_neg (W8.mpr hz)]
def pK:Slot "bytearray" "append" "bytearray.append":=
 .of (owner:="bytearray") (n:="append") (by rw[V7,VO];kernel_rfl) (by decide+kernel) (by decide+kernel) (by decide+kernel)
  (by first|exact .inl (by decide+kernel)|exact .inr (by decide+kernel)) (by rw[Wk];kernel_rfl)
def oR:XX Zv "bytearray.append"=some VD.«bytearray.append»:=XS (by kernel_rfl)
def pI(a b:Vq):YZ "bytearray.append" ⟨[a,b],[]⟩:=by unfold YZ;kernel_rfl
def pL:Slot "bytearray" "extend" "bytearray.extend":=
 .of (owner:="bytearray") (n:="extend") (by rw[V7,VO];kernel_rfl) (by decide+kernel) (by decide+kernel) (by decide+kernel)
  (by first|exact .inl (by decide+kernel)|exact .inr (by decide+kernel)) (by rw[Wk];kernel_rfl)
def oS:XX Zv "bytearray.extend"=some VD.«bytearray.extend»:=XS (by kernel_rfl)
def pJ(a b:Vq):YZ "bytearray.extend" ⟨[a,b],[]⟩:=by unfold YZ;kernel_rfl
def eA:Slot "bytearray" "__init__" "bytearray.__init__":=
 .of (owner:="bytearray") (n:="__init__") (by rw[V7,VO];kernel_rfl) (by decide+kernel) (by decide+kernel) (by decide+kernel)
  (by first|exact .inl (by decide+kernel)|exact .inr (by decide+kernel)) (by rw[Wk];kernel_rfl)
def q4:XX Zv "bytearray.__init__"=some VD.«bytearray.__init__»:=XS (by kernel_rfl)
def sF(a:Vq):YZ "bytearray.__init__" ⟨[a],[]⟩:=by unfold YZ;kernel_rfl
def wa{id:String}(slot:Slot T name id)(entry:XX Zv id=some B)(hc:okIds.contains id=true)
  (hT:s.TypeIs self T)(ok:YZ id ⟨self::rest,[]⟩)
  (h:bg (Vt prog w) A.in1 (B ⟨self::rest,[]⟩) (fun fin s'=>match fin with|.done f=>R (.ok f) s'|.again c'=>c'.quiet=true/\bE (Vt prog w) A c' R s') (fun e s'=>R (.error e) s') s):
  bE (Vt prog w) A (.call (.builtin id) ⟨self::rest,[]⟩) R s:=by
 refine b7 rfl ?_;show bg _ A.in1 (do Zh id ⟨self::rest,[]⟩;again (.builtin id ⟨self::rest,[]⟩)) _ _ s;refine af (slot.check _ _ _ _ _ _ _ _ hT ok (ai ⟨plainId_quiet slot.plain _,b7 hc ?_⟩));show bg _ _ (match XX Zv id with|some b=>b ⟨self::rest,[]⟩|none=>unsupported ((withoutEnding? id "#data").getD id)) _ _ s;rw[entry,Zb slot.plain _];exact h
def Eg(h0:0<=k)(h1:k<256)(q:Q k.toNat.toUInt8 s):Vy M A (ZS (.int k u)) Q E s:=by
 unfold ZS;refine Vi (WM (rfl:asIndex (.int k u)=pure k) ?_);refine ZJ (by simp only[XF,decide_eq_false_iff_not];exact Sp h0 h1) ?_;exact Vp q
def DU(ho:s.heap.get? l=some (dW b))(h0:0<=k)(h1:k<256)(hz:b.size+1<=sizeLine)
  (q:∀h',Wa l s.heap h'->h'.get? l=some (dW (b.push k.toNat.toUInt8))->Q .none {s with heap:=h'}):
  bg (Vt prog w) A (call (.builtin "bytearray.append") [.ref l,.int k u]) Q E s:=by
 refine rz (wa pK oR (by decide+kernel) (i0 _ ho rfl) (pI _ _) ?_);unfold VD.«bytearray.append»;refine af (vG ?_);refine af (Eg h0 h1 ?_);refine ag (yq ho ?_);refine af (qW (f:=(·.push k.toNat.toUInt8)) ho (by rw[Array.size_push];exact hz) fun h' x e=>?_);exact ai (q h' x e)
def EG(ho:s.heap.get? l=some (dW b))(hz:b.size+m.size<=sizeLine)
  (q:∀h',Wa l s.heap h'->h'.get? l=some (dW (b++m))->Q .none {s with heap:=h'}):
  bg (Vt prog w) A (call (.builtin "bytearray.extend") [.ref l,.bytes m u]) Q E s:=by
 refine rz (wa pL oS (by decide+kernel) (i0 _ ho rfl) (pJ _ _) ?_);unfold VD.«bytearray.extend»;refine af (vG ?_);refine af (Wg (VV _ _ _) aY ?_);refine cA (fun _=>?_) (fun h=>absurd rfl h);refine af (Yt ?_);refine ag ?_;unfold Xg YH;refine ag (af (XK ho ?_));refine ai (ai ?_);refine af (qS ?_);refine cA (fun _=>?_) (fun h=>absurd rfl h);have tail:bg (Vt prog w) A.in1 (do Y0 (.ref l) (·++m);ret .none) (fun fin s'=>match fin with
   |.done f=>(match(Except.ok f:Xu)with|.ok (.ret v)=>Q v s'|.ok _=>False|.error e=>E e s')
   |.again c'=>c'.quiet=true/\bE (Vt prog w) A c' (fun r s'=>match r with|.ok (.ret v)=>Q v s'|.ok _=>False|.error e=>E e s') s') (fun e s'=>E e s') s:=by
  refine af (qW (f:=(·++m)) ho (by rw[Array.size_append];exact hz) fun h' x e=>?_);exact ai (q h' x e)
 show bg _ _ (do
  if !m.isEmpty then Ym (.ref l)
  Y0 (.ref l) (·++m)
  ret .none) _ _ _
 exact cA (fun _=>ag (yq ho tail)) (fun _=>tail)
end
set_option backward.match.sparseCases false
section
variable{α β:Type}{M:Model}{A:VN}{E:Vq->Vo->Prop}{s:Vo}{env:Env}{prog:WU}{w:XC}
def v9:mroOf (.type "bytearray")=pure [.type "bytearray",.type "object"]:=by rw[mroOf_type];kernel_rfl
def q5:Xk (.type "bytearray") "__new__"=pure (some (.builtin "bytearray.__new__")):=by rw[V7,VO];kernel_rfl
def nj:TypeCalled "bytearray" "bytearray.__new__" "bytearray.__init__":=
 ⟨by decide+kernel,by decide+kernel,(i5 _ _ v9),madeBy_type v9 q5 (by decide+kernel),by decide+kernel,by rw[Wk];kernel_rfl,eA⟩
def uB:checkTypeCall "bytearray" ⟨[],[]⟩=pure ():=by kernel_rfl
def v_:Zh "bytearray.__new__" ⟨[.type "bytearray"],[]⟩=pure ():=by kernel_rfl
def sG:XX Zv "bytearray.__new__"=some VD.«list.__new__»:=entryFor_alias (id':="list.__new__") (by rw[fastTable_eq_tree];kernel_rfl) (by first|rfl|decide+kernel) (by decide+kernel) (by rw[fastTable_eq_tree];kernel_rfl)
def mf:plainId "bytearray.__new__"=true:=by decide+kernel
set_option maxRecDepth 1000000 in
set_option maxHeartbeats 4000000 in
def tB:("bytearray.__new__".splitOn ".__new__").headD ""="bytearray":=by simp+decide [String.splitOn,String.splitOnAux]
def vO:isSubtype (.type "bytearray") (.type "bytearray")=pure true:=by rw[Wk];kernel_rfl
def uN{Q₁:Vq->Vo->Prop}
  (h:Q₁ (.ref s.heap.objs.size) {s with heap:=s.heap.push (dW #[])}):
  Yj (Vt prog w) A (.call (.builtin "bytearray.__new__") ⟨[.type "bytearray"],[]⟩) (wants Q₁ E) s:=by
 refine codeAny_of_tree ?_;show Vy _ A.in1 (do Zh "bytearray.__new__" ⟨[.type "bytearray"],[]⟩;again (.builtin "bytearray.__new__" ⟨[.type "bytearray"],[]⟩)) _ _ s;refine Vi (WM v_ (Vp ⟨plainId_quiet mf _,codeAny_builtin_stack sG rfl fun p st=>?_⟩));rw[Zb mf _];have hsub:=vO;have hown:=tB;obtain⟨hp,g,d,tk,os⟩:=s;simp only[hown];wp_walk;exact h
def D6:Builtin.Bytes.bindOptional "bytearray.__init__" "bytearray" ["source","encoding","errors"] [] []=pure [none,none,none]:=by kernel_rfl
def sP(ho:s.heap.get? l=some (dW #[]))(q:∀h',Wa l s.heap h'->h'.get? l=some (dW #[])->R (.ok (.ret .none)) {s with heap:=h'}):
  bE (Vt prog w) A (.call (.builtin "bytearray.__init__") ⟨[.ref l],[]⟩) R s:=by
 have hT:s.TypeIs (.ref l) "bytearray":=(i0 _ ho rfl)
 refine wa eA q4 (by decide+kernel) hT (sF _) ?_;unfold VD.«bytearray.__init__»;refine af (AG hT ?_);refine cA (fun h=>absurd h (by decide)) (fun _=>?_);refine ag (dP D6 ?_);refine ag (dP (a:=()) rfl ?_);refine ag (dP (a:=()) rfl ?_);refine ag ?_;show bg _ _ (orM _ _) _ _ _;unfold orM;refine ag (rJ ?_);refine ag ?_;unfold ZR;refine af (XK ho ?_);refine ai (ai ?_);refine cA (fun h=>absurd h (by decide)) (fun _=>?_);refine af (qW (f:=fun _=>#[]) ho (by rw[Y7];decide) fun h' x e=>?_);refine ag ?_;refine cA (fun h=>absurd h (by decide)) (fun _=>?_);refine cA (fun h=>absurd h (by decide)) (fun _=>?_);exact ai (ai (q h' x e))
def uR{id:String}(entry:XX Zv id=some b):(Vt prog w).den (.builtin id args)=b args:=by
 show(match XX Zv id with|some b=>b args|none=>unsupported ((withoutEnding? id "#data").getD id))=_;rw[entry]
def PT{Q:Vq->Vo->Prop}(q:∀h',(∀b o,s.heap.get? b=some o->h'.get? b=some o)->h'.get? s.heap.objs.size=some (dW #[])->Q (.ref s.heap.objs.size) {s with heap:=h'}):
  bg (Vt prog w) A (call (.type "bytearray") []) Q E s:=by
 refine rz (b7 rfl ?_);show bg _ _ (pure (Fin.again (.builtin "type.__call__" ⟨[.type "bytearray"],[]⟩))) _ _ _;refine ai ?_;refine And.intro (Code.quiet_builtin _ (by decide+kernel)) ?_;refine b7 (by decide+kernel) ?_;rw[uR F.entry_type_call,Around.under_plain (weight_type_call_type "bytearray" [] []) rfl];unfold VD.«type.__call__»;refine cA (fun h=>absurd h (by decide+kernel)) (fun _=>?_);refine cA (fun h=>absurd h (by rw[nj.canCreate];decide)) (fun _=>?_);refine ag (dP uB ?_);refine ag (dP v9 ?_);refine cA (fun h=>absurd h (by decide)) (fun _=>?_);refine ag (dP nj.made ?_);refine ag (ai ?_);refine ag (bo (bw (wpAny_call (codeAny_mono (uN (Q₁:=fun v s1=>v=.ref s.heap.objs.size/\s1={s with heap:=s.heap.push (dW #[])}) (E:=fun _ _=>False) ⟨rfl,rfl⟩) fun r s1 h1=>?_))));induction r using Except.casesOn with
 |error e=>exact h1.elim
 |ok f=>
  induction f using YF with
  |ret v=>
   obtain⟨rfl,rfl⟩:=h1;have g0:(s.heap.push (dW #[])).get? s.heap.objs.size=some (dW #[]):=V_ _ rfl;have hT:({s with heap:=s.heap.push (dW #[])}:Vo).TypeIs (.ref s.heap.objs.size) "bytearray":=(i0 _ g0 rfl)
   refine af (XQ hT nj.sub ?_);refine cA (fun h=>absurd h (by decide)) (fun _=>?_);refine ag (bo ?_);unfold callSpecial?;refine af (Wg hT eA.lookup ?_);refine bo ?_;refine ag (dP (eA.bind _) ?_);refine ag (rz (sP g0 fun h' x e=>?_));refine ai ?_;refine cA (fun h=>absurd h (by decide)) (fun _=>?_);refine ai (q h' (fun b o hb=>x b o (fun z=>by rw[z]at hb;exact absurd (Wb hb) (WQ _)) (Vx _ hb)) e)
  |_=>exact h1.elim
end
end
end Mine
end
section
namespace Mine
section
noncomputable def ef:IS:=.seq (.ret (.ite (.isBytes (.loc 32)) (.loc 32) .bad)) .skip
noncomputable def jE:IS:=.seq (.ret (.cmp2 .le .le (.int 97) (.loc 3) (.int 122))) .skip
noncomputable def jK:IS:=.seq (.ret (.cmp2 .le .le (.int 65) (.loc 3) (.int 90))) .skip
noncomputable def jC:IS:=.seq (.ret (.or (.call 70 (.cons (.loc 3) .nil)) (.call 77 (.cons (.loc 3) .nil)))) .skip
noncomputable def jD:IS:=.seq (.ret (.cmp2 .le .le (.int 48) (.loc 3) (.int 57))) .skip
noncomputable def rg:IS:=.seq (.ret (.ite (.call 77 (.cons (.loc 5) .nil)) (.not (.loc 7)) (.loc 7))) .skip
noncomputable def kN:IS:=.seq (.ite (.cmp .eq (.loc 6) (.int 97)) (.seq (.assign (.loc 7) (.call 84 (.cons (.loc 3) .nil))) .skip) (.seq (.ite (.cmp .eq (.loc 6) (.int 99)) (.seq (.assign (.loc 7) .bad) .skip) (.seq (.ite (.cmp .eq (.loc 6) (.int 100)) (.seq (.assign (.loc 7) (.call 91 (.cons (.loc 3) .nil))) .skip) (.seq (.ite (.cmp .eq (.loc 6) (.int 108)) (.seq (.assign (.loc 7) (.call 70 (.cons (.loc 3) .nil))) .skip) (.seq (.ite (.cmp .eq (.loc 6) (.int 112)) (.seq (.assign (.loc 7) .bad) .skip) (.seq (.ite (.cmp .eq (.loc 6) (.int 115)) (.seq (.assign (.loc 7) .bad) .skip) (.seq (.ite (.cmp .eq (.loc 6) (.int 117)) (.seq (.assign (.loc 7) (.call 77 (.cons (.loc 3) .nil))) .skip) (.seq (.ite (.cmp .eq (.loc 6) (.int 119)) (.seq (.assign (.loc 7) (.or (.call 84 (.cons (.loc 3) .nil)) (.call 91 (.cons (.loc 3) .nil)))) .skip) (.seq (.ite (.cmp .eq (.loc 6) (.int 120)) (.seq (.assign (.loc 7) .bad) .skip) (.seq (.ite (.cmp .eq (.loc 6) (.int 122)) (.seq (.assign (.loc 7) (.cmp .eq (.loc 3) (.int 0))) .skip) (.seq (.ret (.cmp .eq (.loc 5) (.loc 3))) .skip)) .skip)) .skip)) .skip)) .skip)) .skip)) .skip)) .skip)) .skip)) .skip)) rg
noncomputable def jA:IS:=.seq (.assign (.loc 6) (.ite (.call 77 (.cons (.loc 5) .nil)) (.bin .add (.loc 5) (.int 32)) (.loc 5))) kN
noncomputable def rX:IS:=.seq (.assign (.attr (.loc 0) 7) (.list .nil)) .skip
noncomputable def rW:IS:=.seq (.assign (.attr (.loc 0) 6) (.list .nil)) rX
noncomputable def rV:IS:=.seq (.assign (.attr (.loc 0) 5) (.int 0)) rW
noncomputable def rU:IS:=.seq (.assign (.attr (.loc 0) 4) (.int 0)) rV
noncomputable def rT:IS:=.seq (.assign (.attr (.loc 0) 3) (.loc 11)) rU
noncomputable def rS:IS:=.seq (.assign (.attr (.loc 0) 2) (.loc 10)) rT
noncomputable def rR:IS:=.seq (.assign (.attr (.loc 0) 1) (.ite (.cmp .lt (.loc 12) (.int 0)) (.loc 9) (.slc (.loc 9) .none (.loc 12)))) rS
noncomputable def rP:IS:=.seq (.assign (.attr (.loc 0) 0) (.loc 8)) rR
noncomputable def sZ:IS:=.seq (.assign (.loc 12) (.find0 (.loc 9) (.bytes [0]))) rP
noncomputable def qm:IS:=.seq (.ite (.notNone (.attr (.loc 0) 3)) (.seq (.expr .bad) .skip) .skip) .skip
noncomputable def wF:IS:=.seq (.assign (.attr (.loc 0) 7) (.list .nil)) .skip
noncomputable def wD:IS:=.seq (.assign (.attr (.loc 0) 6) (.list .nil)) wF
noncomputable def wC:IS:=.seq (.assign (.attr (.loc 0) 5) (.int 0)) wD
noncomputable def qs:IS:=.seq (.assign (.attr (.loc 0) 4) (.int 0)) wC
noncomputable def xY:IS:=.seq (.ret (.ite (.cmp .lt (.loc 1) (.len (.attr (.loc 0) 1))) (.idx (.attr (.loc 0) 1) (.loc 1)) (.int 0))) .skip
noncomputable def iP:IS:=.seq (.ret (.bin .add (.loc 1) (.int 1))) .skip
noncomputable def iO:IS:=.seq (.ite (.and (.loc 15) (.cmp .lt (.loc 1) (.len (.attr (.loc 0) 1)))) (.seq (.augL 1 .add (.int 1)) .skip) .skip) .skip
noncomputable def iN:IS:=.seq (.augL 1 .add (.int 1)) iO
noncomputable def iM:IS:=.seq (.assign (.loc 15) (.cmp .eq (.idx (.attr (.loc 0) 1) (.loc 1)) (.int 37))) iN
noncomputable def iL:IS:=.seq (.ite (.cmp .ge (.loc 1) (.len (.attr (.loc 0) 1))) (.seq .raise .skip) .skip) iM
noncomputable def eP:IS:=.seq (.assign (.loc 14) (.bool false)) iL
noncomputable def eO:IS:=.seq (.while (.or (.loc 14) (.cmp .ne (.mcall (.loc 0) 162 (.cons (.loc 1) .nil)) (.int 93))) eP) iP
noncomputable def qk:IS:=.seq (.assign (.loc 14) (.bool true)) eO
noncomputable def jz:IS:=.seq (.ite (.cmp .eq (.mcall (.loc 0) 162 (.cons (.loc 1) .nil)) (.int 94)) (.seq (.augL 1 .add (.int 1)) .skip) .skip) qk
noncomputable def jy:IS:=.seq (.augL 1 .add (.int 1)) jz
noncomputable def jx:IS:=.seq (.ite (.cmp .ne (.loc 13) (.int 91)) (.seq (.ret (.bin .add (.loc 1) (.int 1))) .skip) .skip) jy
noncomputable def qj:IS:=.seq (.ret (.bin .add (.loc 1) (.int 2))) .skip
noncomputable def jw:IS:=.seq (.ite (.cmp .ge (.bin .add (.loc 1) (.int 1)) (.len (.attr (.loc 0) 1))) (.seq .raise .skip) .skip) qj
noncomputable def jv:IS:=.seq (.ite (.cmp .eq (.loc 13) (.int 37)) jw .skip) jx
noncomputable def h_:IS:=.seq (.assign (.loc 13) (.mcall (.loc 0) 162 (.cons (.loc 1) .nil))) jv
noncomputable def c9:IS:=.seq (.ret (.not (.loc 17))) .skip
noncomputable def cu:IS:=.seq (.augL 1 .add (.int 1)) .skip
noncomputable def ie:IS:=.seq (.augL 1 .add (.int 2)) .skip
noncomputable def mE:IS:=.seq (.ite (.cmp2 .le .le (.loc 18) (.loc 3) (.idx (.attr (.loc 0) 1) (.bin .add (.loc 1) (.int 2)))) (.seq (.ret (.loc 17)) .skip) .skip) ie
noncomputable def oG:IS:=.seq (.ite (.call 126 (.cons (.loc 3) (.cons (.mcall (.loc 0) 162 (.cons (.loc 1) .nil)) .nil))) (.seq (.ret (.loc 17)) .skip) .skip) .skip
noncomputable def oF:IS:=.seq (.augL 1 .add (.int 1)) oG
noncomputable def oE:IS:=.seq (.ite (.cmp .eq (.loc 18) (.int 37)) oF (.seq (.ite (.and (.cmp .eq (.mcall (.loc 0) 162 (.cons (.bin .add (.loc 1) (.int 1)) .nil)) (.int 45)) (.cmp .lt (.bin .add (.loc 1) (.int 2)) (.loc 16))) mE (.seq (.ite (.cmp .eq (.loc 18) (.loc 3)) (.seq (.ret (.loc 17)) .skip) .skip) .skip)) .skip)) cu
noncomputable def oB:IS:=.seq (.assign (.loc 18) (.idx (.attr (.loc 0) 1) (.loc 1))) oE
noncomputable def jB:IS:=.seq (.while (.cmp .lt (.loc 1) (.loc 16)) oB) c9
noncomputable def oA:IS:=.seq (.augL 1 .add (.int 1)) .skip
noncomputable def oz:IS:=.seq (.assign (.loc 17) (.bool false)) oA
noncomputable def ou:IS:=.seq (.ite (.cmp .eq (.mcall (.loc 0) 162 (.cons (.loc 1) .nil)) (.int 94)) oz .skip) jB
noncomputable def oq:IS:=.seq (.augL 1 .add (.int 1)) ou
noncomputable def nF:IS:=.seq (.assign (.loc 17) (.bool true)) oq
noncomputable def jJ:IS:=.seq (.ret (.cmp .eq (.loc 13) (.loc 3))) .skip
noncomputable def jI:IS:=.seq (.ite (.cmp .eq (.loc 13) (.int 91)) (.seq (.ret (.mcall (.loc 0) 176 (.cons (.loc 3) (.cons (.loc 1) (.cons (.bin .sub (.loc 4) (.int 1)) .nil))))) .skip) .skip) jJ
noncomputable def jH:IS:=.seq (.ite (.cmp .eq (.loc 13) (.int 37)) (.seq (.ret (.call 126 (.cons (.loc 3) (.cons (.idx (.attr (.loc 0) 1) (.bin .add (.loc 1) (.int 1))) .nil)))) .skip) .skip) jI
noncomputable def jG:IS:=.seq (.ite (.cmp .eq (.loc 13) (.int 46)) (.seq (.ret (.bool true)) .skip) .skip) jH
noncomputable def jF:IS:=.seq (.assign (.tup [3,13]) (.tup (.cons (.idx (.attr (.loc 0) 0) (.loc 2)) (.cons (.idx (.attr (.loc 0) 1) (.loc 1)) .nil)))) jG
noncomputable def ig:IS:=.seq (.ite (.cmp .ge (.loc 2) (.len (.attr (.loc 0) 0))) (.seq (.ret (.bool false)) .skip) .skip) jF
noncomputable def wB:IS:=.seq (.ret (.loc 7)) .skip
noncomputable def lD:IS:=.seq (.augA (.loc 0) 4 .sub (.int 1)) wB
noncomputable def qr:IS:=.seq (.assign (.loc 7) (.mcall (.loc 0) 197 (.cons (.loc 2) (.cons (.loc 1) .nil)))) lD
noncomputable def qq:IS:=.seq (.ite (.cmp .gt (.attr (.loc 0) 4) (.attr (.loc 0) 2)) (.seq .raise .skip) .skip) qr
noncomputable def qp:IS:=.seq (.augA (.loc 0) 4 .add (.int 1)) qq
noncomputable def qo:IS:=.seq (.expr (.mcall (.loc 0) 148 .nil)) qp
noncomputable def gP:IS:=.seq (.ret (.loc 2)) .skip
noncomputable def gO:IS:=.seq (.assign (.tup [2,1]) (.tup (.cons (.bin .add (.loc 2) (.int 1)) (.cons (.loc 4) .nil)))) .skip
noncomputable def gN:IS:=.seq (.ite (.not (.loc 21)) (.seq (.ret .none) .skip) .skip) gO
noncomputable def nH:IS:=.seq .cont .skip
noncomputable def dH:IS:=.seq (.assign (.loc 1) (.bin .add (.loc 4) (.int 1))) nH
noncomputable def dG:IS:=.seq (.ite (.notNone (.loc 7)) (.seq (.ret (.loc 7)) .skip) .skip) .skip
noncomputable def gM:IS:=.seq (.assign (.loc 7) (.mcall (.loc 0) 190 (.cons (.bin .add (.loc 2) (.int 1)) (.cons (.bin .add (.loc 4) (.int 1)) .nil)))) dG
noncomputable def gK:IS:=.seq (.ite (.loc 21) gM .skip) dH
noncomputable def gJ:IS:=.seq (.ite (.cmp .eq (.loc 20) (.int 63)) gK .skip) gN
noncomputable def gH:IS:=.seq (.assign (.loc 21) (.mcall (.loc 0) 183 (.cons (.loc 2) (.cons (.loc 1) (.cons (.loc 4) .nil))))) gJ
noncomputable def gG:IS:=.seq (.ite (.cmp .eq (.loc 20) (.int 45)) (.seq (.ret (.mcall (.loc 0) 232 (.cons (.loc 2) (.cons (.loc 1) (.cons (.loc 4) .nil))))) .skip) .skip) gH
noncomputable def gF:IS:=.seq (.ite (.cmp .eq (.loc 20) (.int 43)) (.seq (.ret (.ite (.mcall (.loc 0) 183 (.cons (.loc 2) (.cons (.loc 1) (.cons (.loc 4) .nil)))) (.mcall (.loc 0) 225 (.cons (.bin .add (.loc 2) (.int 1)) (.cons (.loc 1) (.cons (.loc 4) .nil)))) .none)) .skip) .skip) gG
noncomputable def gE:IS:=.seq (.ite (.cmp .eq (.loc 20) (.int 42)) (.seq (.ret (.mcall (.loc 0) 225 (.cons (.loc 2) (.cons (.loc 1) (.cons (.loc 4) .nil))))) .skip) .skip) gF
noncomputable def gz:IS:=.seq (.assign (.loc 20) (.mcall (.loc 0) 162 (.cons (.loc 4) .nil))) gE
noncomputable def dE:IS:=.seq (.assign (.loc 4) (.mcall (.loc 0) 169 (.cons (.loc 1) .nil))) gz
noncomputable def nG:IS:=.seq .cont .skip
noncomputable def gy:IS:=.seq (.ite (.isNone (.loc 2)) (.seq (.ret .none) .skip) .skip) nG
noncomputable def iX:IS:=.seq (.assign (.tup [2,1]) (.mcall (.loc 0) 204 (.cons (.loc 2) (.cons (.loc 1) (.cons (.loc 19) .nil))))) gy
noncomputable def iW:IS:=.seq (.ite (.and (.cmp .eq (.loc 13) (.int 37)) (.or (.inB (.loc 19) (.bytes [98,102])) (.call 91 (.cons (.loc 19) .nil)))) iX .skip) dE
noncomputable def iV:IS:=.seq (.ite (.and (.cmp .eq (.loc 13) (.int 36)) (.cmp .eq (.bin .add (.loc 1) (.int 1)) (.len (.attr (.loc 0) 1)))) (.seq (.ret (.ite (.cmp .eq (.loc 2) (.len (.attr (.loc 0) 0))) (.loc 2) .none)) .skip) .skip) iW
noncomputable def iU:IS:=.seq (.ite (.cmp .eq (.loc 13) (.int 41)) (.seq (.ret (.mcall (.loc 0) 246 (.cons (.loc 2) (.cons (.bin .add (.loc 1) (.int 1)) .nil)))) .skip) .skip) iV
noncomputable def iT:IS:=.seq (.ret (.mcall (.loc 0) 239 (.cons (.loc 2) (.cons (.bin .add (.loc 1) (.int 1)) (.cons (.int (-1)) .nil))))) .skip
noncomputable def iS:IS:=.seq (.ite (.cmp .eq (.loc 19) (.int 41)) (.seq (.ret (.mcall (.loc 0) 239 (.cons (.loc 2) (.cons (.bin .add (.loc 1) (.int 2)) (.cons (.int (-2)) .nil))))) .skip) .skip) iT
noncomputable def iR:IS:=.seq (.ite (.cmp .eq (.loc 13) (.int 40)) iS .skip) iU
noncomputable def iQ:IS:=.seq (.assign (.tup [13,19]) (.tup (.cons (.idx (.attr (.loc 0) 1) (.loc 1)) (.cons (.mcall (.loc 0) 162 (.cons (.bin .add (.loc 1) (.int 1)) .nil)) .nil)))) iR
noncomputable def ek:IS:=.seq (.expr (.mcall (.loc 0) 148 .nil)) iQ
noncomputable def fV:IS:=.seq (.while (.cmp .lt (.loc 1) (.len (.attr (.loc 0) 1))) ek) gP
noncomputable def lF:IS:=.seq (.ret (.tup (.cons .bad (.cons (.bin .add (.loc 1) (.int 2)) .nil)))) .skip
noncomputable def lE:IS:=.seq (.ite (.cmp .eq (.loc 5) (.int 102)) (.seq (.ret .bad) .skip) .skip) lF
noncomputable def dJ:IS:=.seq (.ite (.cmp .eq (.loc 5) (.int 98)) (.seq (.ret (.tup (.cons (.mcall (.loc 0) 211 (.cons (.loc 2) (.cons (.bin .add (.loc 1) (.int 2)) .nil))) (.cons (.bin .add (.loc 1) (.int 4)) .nil)))) .skip) .skip) lE
noncomputable def cC:IS:=.seq (.ret .none) .skip
noncomputable def cB:IS:=.seq (.augL 2 .add (.int 1)) .skip
noncomputable def ey:IS:=.seq (.ite (.cmp .eq (.loc 23) (.int 0)) (.seq (.ret (.bin .add (.loc 2) (.int 1))) .skip) .skip) .skip
noncomputable def e9:IS:=.seq (.augL 23 .sub (.int 1)) ey
noncomputable def eZ:IS:=.seq (.ite (.cmp .eq (.loc 3) (.loc 4)) e9 (.seq (.ite (.cmp .eq (.loc 3) (.loc 22)) (.seq (.augL 23 .add (.int 1)) .skip) .skip) .skip)) cB
noncomputable def eY:IS:=.seq (.assign (.loc 3) (.idx (.attr (.loc 0) 0) (.loc 2))) eZ
noncomputable def eX:IS:=.seq (.expr (.mcall (.loc 0) 148 .nil)) eY
noncomputable def cO:IS:=.seq (.while (.cmp .lt (.loc 2) (.len (.attr (.loc 0) 0))) eX) cC
noncomputable def eW:IS:=.seq (.augL 2 .add (.int 1)) cO
noncomputable def eV:IS:=.seq (.assign (.loc 23) (.int 1)) eW
noncomputable def eU:IS:=.seq (.ite (.or (.cmp .ge (.loc 2) (.len (.attr (.loc 0) 0))) (.cmp .ne (.idx (.attr (.loc 0) 0) (.loc 2)) (.loc 22))) (.seq (.ret .none) .skip) .skip) eV
noncomputable def eT:IS:=.seq (.assign (.tup [22,4]) (.tup (.cons (.idx (.attr (.loc 0) 1) (.loc 1)) (.cons (.idx (.attr (.loc 0) 1) (.bin .add (.loc 1) (.int 1))) .nil)))) eU
noncomputable def dD:IS:=.seq (.ite (.cmp .ge (.bin .add (.loc 1) (.int 1)) (.len (.attr (.loc 0) 1))) (.seq .raise .skip) .skip) eT
noncomputable def gq:IS:=.seq (.ret .none) .skip
noncomputable def gn:IS:=.seq (.augL 25 .sub (.int 1)) .skip
noncomputable def dA:IS:=.seq (.ite (.notNone (.loc 7)) (.seq (.ret (.loc 7)) .skip) .skip) gn
noncomputable def gm:IS:=.seq (.assign (.loc 7) (.mcall (.loc 0) 190 (.cons (.bin .add (.loc 2) (.loc 25)) (.cons (.bin .add (.loc 4) (.int 1)) .nil)))) dA
noncomputable def gk:IS:=.seq (.while (.cmp .ge (.loc 25) (.int 0)) gm) gq
noncomputable def gj:IS:=.seq (.augL 25 .add (.int 1)) .skip
noncomputable def gh:IS:=.seq (.expr (.mcall (.loc 0) 148 .nil)) gj
noncomputable def gg:IS:=.seq (.while (.mcall (.loc 0) 183 (.cons (.bin .add (.loc 2) (.loc 25)) (.cons (.loc 1) (.cons (.loc 4) .nil)))) gh) gk
noncomputable def eR:IS:=.seq (.assign (.loc 25) (.int 0)) gg
noncomputable def c8:IS:=.seq (.augL 2 .add (.int 1)) .skip
noncomputable def fL:IS:=.seq (.ite (.not (.mcall (.loc 0) 183 (.cons (.loc 2) (.cons (.loc 1) (.cons (.loc 4) .nil))))) (.seq (.ret .none) .skip) .skip) c8
noncomputable def c7:IS:=.seq (.ite (.notNone (.loc 7)) (.seq (.ret (.loc 7)) .skip) .skip) fL
noncomputable def c6:IS:=.seq (.assign (.loc 7) (.mcall (.loc 0) 190 (.cons (.loc 2) (.cons (.bin .add (.loc 4) (.int 1)) .nil)))) c7
noncomputable def eg:IS:=.seq (.while (.bool true) c6) .skip
noncomputable def fg:IS:=.seq (.ret (.loc 7)) .skip
noncomputable def cP:IS:=.seq (.ite (.isNone (.loc 7)) (.seq (.augA (.loc 0) 5 .sub (.int 1)) .skip) .skip) fg
noncomputable def ff:IS:=.seq (.assign (.loc 7) (.mcall (.loc 0) 190 (.cons (.loc 2) (.cons (.loc 1) .nil)))) cP
noncomputable def fc:IS:=.seq (.augA (.loc 0) 5 .add (.int 1)) ff
noncomputable def fa:IS:=.seq (.assign (.attr (.loc 0) 7) (.bin .add (.slc (.attr (.loc 0) 7) .none (.attr (.loc 0) 5)) (.list (.cons (.loc 26) .nil)))) fc
noncomputable def e_:IS:=.seq (.assign (.attr (.loc 0) 6) (.bin .add (.slc (.attr (.loc 0) 6) .none (.attr (.loc 0) 5)) (.list (.cons (.loc 2) .nil)))) fa
noncomputable def dK:IS:=.seq (.ite (.cmp .ge (.attr (.loc 0) 5) (.int 32)) (.seq .raise .skip) .skip) e_
noncomputable def nE:IS:=.seq (.ret (.loc 7)) .skip
noncomputable def dz:IS:=.seq (.ite (.isNone (.loc 7)) (.seq (.assign (.idx (.attr (.loc 0) 7) (.loc 27)) (.int (-1))) .skip) .skip) nE
noncomputable def gf:IS:=.seq (.assign (.loc 7) (.mcall (.loc 0) 190 (.cons (.loc 2) (.cons (.loc 1) .nil)))) dz
noncomputable def gd:IS:=.seq (.assign (.idx (.attr (.loc 0) 7) (.loc 27)) (.bin .sub (.loc 2) (.idx (.attr (.loc 0) 6) (.loc 27)))) gf
noncomputable def eQ:IS:=.seq (.assign (.loc 27) (.mcall (.loc 0) 253 .nil)) gd
noncomputable def kR:IS:=.seq .raise .skip
noncomputable def kQ:IS:=.seq (.augL 27 .sub (.int 1)) .skip
noncomputable def kP:IS:=.seq (.ite (.cmp .eq (.idx (.attr (.loc 0) 7) (.loc 27)) (.int (-1))) (.seq (.ret (.loc 27)) .skip) .skip) kQ
noncomputable def kO:IS:=.seq (.while (.cmp .ge (.loc 27) (.int 0)) kP) kR
noncomputable def jL:IS:=.seq (.assign (.loc 27) (.bin .sub (.attr (.loc 0) 5) (.int 1))) kO
noncomputable def mD:IS:=.seq (.ret (.ite (.cmp .eq (.loc 29) (.int (-2))) (.bin .add (.loc 30) (.int 1)) (.slc (.attr (.loc 0) 0) (.loc 30) (.bin .add (.loc 30) (.loc 29))))) .skip
noncomputable def mC:IS:=.seq (.ite (.cmp .eq (.loc 29) (.int (-1))) (.seq .raise .skip) .skip) mD
noncomputable def mB:IS:=.seq (.assign (.tup [29,30]) (.tup (.cons (.idx (.attr (.loc 0) 7) (.loc 27)) (.cons (.idx (.attr (.loc 0) 6) (.loc 27)) .nil)))) mC
noncomputable def mz:IS:=.seq (.ret (.slc (.attr (.loc 0) 0) (.loc 2) (.loc 4))) .skip
noncomputable def my:IS:=.seq (.ite (.cmp .gt (.loc 27) (.int 0)) (.seq .raise .skip) .skip) mz
noncomputable def lC:IS:=.seq (.ite (.cmp .ge (.loc 27) (.attr (.loc 0) 5)) my .skip) mB
noncomputable def rf:IS:=.seq (.ret (.compR (.loc 25) 27 (.mcall (.cel 0) 267 (.cons (.loc 27) (.cons (.cel 1) (.cons (.cel 2) .nil)))))) .skip
noncomputable def dY:IS:=.seq (.assign (.loc 25) (.ite (.and (.cmp .eq (.attr (.cel 0) 5) (.int 0)) (.loc 31)) (.int 1) (.attr (.cel 0) 5))) rf
noncomputable def gw:IS:=.seq (.ret .none) .skip
noncomputable def gv:IS:=.seq (.assign (.loc 22) (.bin .add (.loc 22) (.int 1))) .skip
noncomputable def gu:IS:=.seq (.ite (.loc 38) (.seq (.ret .none) .skip) .skip) gv
noncomputable def dB:IS:=.seq (.ite (.notNone (.loc 4)) (.seq (.ret (.tup (.cons (.loc 22) (.cons (.loc 4) .nil)))) .skip) .skip) gu
noncomputable def gr:IS:=.seq (.assign (.loc 4) (.callv (.loc 39) (.cons (.loc 22) .nil))) dB
noncomputable def eS:IS:=.seq (.while (.cmp .le (.loc 22) (.loc 29)) gr) gw
noncomputable def ed:IS:=.seq (.ret (.ite (.cmp .gt (.loc 4) (.loc 22)) (.loc 4) (.bin .add (.loc 4) (.int 1)))) .skip
noncomputable def mH:IS:=.seq (.ret (.bin .mod (.bin .add (.bin .mul (.int 7) (.loc 36)) (.bin .fdiv (.bin .mul (.loc 36) (.loc 36)) (.int 2))) (.loc 25))) .skip
noncomputable def mG:IS:=.seq (.ite (.cmp .le (.loc 36) (.len (.key (.loc 41) 8))) (.seq (.ret (.bin .mod (.idx (.key (.loc 41) 8) (.bin .sub (.loc 36) (.int 1))) (.loc 25))) .skip) .skip) mH
noncomputable def ik:IS:=.seq (.assign (.loc 36) (.key (.loc 41) 9)) mG
noncomputable def lH:IS:=.seq (.assign (.key (.loc 41) 9) (.bin .add (.key (.loc 41) 9) (.int 1))) ik
noncomputable def dZ:IS:=.seq (.ret (.mcall (.cel 0) 190 (.cons (.loc 43) (.cons (.int 0) .nil)))) .skip
noncomputable def cQ:IS:=.seq (.expr (.mcall (.cel 0) 155 .nil)) dZ
noncomputable def c_:IS:=.seq (.ret (.call 28 (.cons (.mcall (.cel 2) 267 (.cons (.bin .sub (.loc 27) (.int 1)) (.cons (.cel 0) (.cons (.cel 1) .nil)))) .nil))) .skip
noncomputable def bF:IS:=.seq (.ite (.cmp .eq (.loc 27) (.int 0)) (.seq (.ret (.slc (.attr (.cel 2) 0) (.cel 0) (.cel 1))) .skip) .skip) c_
noncomputable def dR:IS:=.seq (.assign (.tup [44,22]) (.tup (.cons (.bin .add (.loc 44) (.list (.cons (.loc 46) .nil))) (.cons (.call 300 (.cons (.idx (.loc 46) (.int 0)) (.cons (.idx (.loc 46) (.int 1)) .nil))) .nil)))) .skip
noncomputable def kW:IS:=.seq (.tryL (.seq (.expr (.mcall (.loc 42) 272 (.cons (.idx (.loc 46) (.int 0)) (.cons (.idx (.loc 46) (.int 1)) (.cons (.bool true) .nil))))) .skip) (.seq (.assign (.loc 45) (.bool true)) .skip)) dR
noncomputable def dQ:IS:=.seq (.ite (.isNone (.loc 46)) (.seq (.ret (.tup (.cons (.loc 44) (.cons (.loc 45) .nil)))) .skip) .skip) kW
noncomputable def fW:IS:=.seq (.assign (.loc 46) (.call 293 (.cons (.len (.loc 8)) (.cons (.loc 22) (.cons (.bool false) (.cons (.loc 39) .nil)))))) dQ
noncomputable def kU:IS:=.seq (.while (.bool true) fW) .skip
noncomputable def kS:IS:=.seq (.assign (.loc 39) (.call 315 (.cons (.loc 42) .nil))) kU
noncomputable def jM:IS:=.seq (.assign (.tup [42,44,22,45]) (.tup (.cons (.mk (.cons (.loc 8) (.cons (.loc 9) .nil))) (.cons (.list .nil) (.cons (.int 0) (.cons (.bool false) .nil)))))) kS
noncomputable def ij:IS:=.seq (.ret (.tup (.cons (.bin .add (.loc 7) (.slc (.loc 8) (.loc 36) .none)) (.cons (.len (.loc 44)) .nil)))) .skip
noncomputable def mF:IS:=.seq (.forP 22 4 (.loc 44) (.seq (.assign (.tup [7,36]) (.tup (.cons (.bin .add (.bin .add (.bin .add (.bin .add (.loc 7) (.slc (.loc 8) (.loc 36) (.loc 22))) (.bytes [45])) (.slc (.loc 8) (.loc 22) (.loc 4))) (.bytes [37])) (.cons (.loc 4) .nil)))) .skip)) ij
noncomputable def lG:IS:=.seq (.assign (.tup [7,36]) (.tup (.cons (.bytes []) (.cons (.int 0) .nil)))) mF
abbrev cq:=Nat×Int
inductive jh where
 |err|fail|ok (e:Nat)(cs:List cq)
noncomputable def atP(P:List UInt8)(p:Nat):Nat:=match P[p]?with|some c=>c.toNat|none=>0
noncomputable def mJ(c:Nat):Bool:=(decide (97<=c)&&decide (c<=122))||(decide (65<=c)&&decide (c<=90))
noncomputable def gc(c l:Nat):Bool:=if l=97 then mJ c else decide (l=c)
noncomputable def jn(P:List UInt8):Nat->Nat->Bool->Option Nat
 |0,_,_=>none
 |f+1,p,first=>
  if first||decide (atP P p≠93)then
   if P.length<=p then none
   else if atP P p=37/\p+1<P.length then jn P f (p+2) false else jn P f (p+1) false
  else some (p+1)
def lu:jn P (f+1) p first=(if first||decide (atP P p≠93)then
   if P.length<=p then none
   else if atP P p=37/\p+1<P.length then jn P f (p+2) false else jn P f (p+1) false
  else some (p+1)):=rfl
noncomputable def bp(P:List UInt8)(p:Nat):Option Nat:=
 if atP P p=37 then(if P.length<=p+1 then none else some (p+2))
 else if atP P p≠91 then some (p+1)
 else jn P (P.length+2) (if atP P (p+1)=94 then p+2 else p+1) true
noncomputable def ip(P:List UInt8)(c last:Nat)(w:Bool):Nat->Nat->Bool
 |0,_=> !w
 |f+1,p=>
  if p<last then
   if atP P p=37 then(if gc c (atP P (p+1))then w else ip P c last w f (p+2))
   else if atP P (p+1)=45/\p+2<last then(if atP P p<=c/\c<=atP P (p+2)then w else ip P c last w f (p+3))
   else if atP P p=c then w else ip P c last w f (p+1)
  else !w
def nJ:ip P c last w (f+1) p=(if p<last then
   if atP P p=37 then(if gc c (atP P (p+1))then w else ip P c last w f (p+2))
   else if atP P (p+1)=45/\p+2<last then(if atP P p<=c/\c<=atP P (p+2)then w else ip P c last w f (p+3))
   else if atP P p=c then w else ip P c last w f (p+1)
  else !w):=rfl
noncomputable def sY(P:List UInt8)(c p last:Nat):Bool:=
 if atP P (p+1)=94 then ip P c last false (P.length+1) (p+2)else ip P c last true (P.length+1) (p+1)
noncomputable def ar(T P:List UInt8)(s p e:Nat):Bool:=match T[s]?with
 |none=>false
 |some c=>if atP P p=46 then true else if atP P p=37 then gc c.toNat (atP P (p+1))else if atP P p=91 then sY P c.toNat p (e-1)else decide (atP P p=c.toNat)
noncomputable def eJ(T:List UInt8)(b e:Nat):Nat->Nat->Nat->Option Nat
 |0,_,_=>none
 |f+1,s,n=>if T.length<=s then none
  else if atP T s=e then(if n=1 then some (s+1)else eJ T b e f (s+1) (n-1))
  else if atP T s=b then eJ T b e f (s+1) (n+1)else eJ T b e f (s+1) n
def hJ:eJ T b e (f+1) s n=(if T.length<=s then none
  else if atP T s=e then(if n=1 then some (s+1)else eJ T b e f (s+1) (n-1))
  else if atP T s=b then eJ T b e f (s+1) (n+1)else eJ T b e f (s+1) n):=rfl
noncomputable def lj(T:List UInt8)(s b e:Nat):Option Nat:=if T.length<=s\/atP T s≠b then none else eJ T b e (T.length+1) (s+1) 1
noncomputable def cR(g:Nat->Bool):Nat->Nat->Nat
 |0,i=>i
 |f+1,i=>if g i then cR g f (i+1)else i
def fi:cR g (f+1) i=(if g i then cR g f (i+1)else i):=rfl
noncomputable def b9(g:Nat->jh):Nat->jh
 |0=>g 0
 |n+1=>match g (n+1)with|.fail=>b9 g n|r=>r
def jQ:b9 g (n+1)=(match g (n+1)with|.fail=>b9 g n|r=>r):=rfl
noncomputable def cw(g:Nat->jh)(sg:Nat->Bool):Nat->Nat->jh
 |0,_=>.err
 |f+1,s=>match g s with|.fail=>if sg s then cw g sg f (s+1)else .fail|r=>r
def eH:cw g sg (f+1) s=(match g s with|.fail=>if sg s then cw g sg f (s+1)else .fail|r=>r):=rfl
noncomputable def kC(cs:List cq):Nat->Option Nat
 |0=>none
 |j+1=>if(cs.getD j (0,0)).2=-1 then some j else kC cs j
def nP:kC cs (j+1)=(if(cs.getD j (0,0)).2=-1 then some j else kC cs j):=rfl
noncomputable def bz(cs:List cq):Option Nat:=kC cs cs.length
noncomputable def aG(T P:List UInt8):Nat->Nat->Nat->List cq->jh
 |0,_,_,_=>.err
 |f+1,s,p,cs=>
  if P.length<=p then .ok s cs
  else if atP P p=40 then
   if 32<=cs.length then .err
   else if atP P (p+1)=41 then aG T P f s (p+2) (cs++[(s,-2)])else aG T P f s (p+1) (cs++[(s,-1)])
  else if atP P p=41 then
   match bz cs with
   |none=>.err
   |some n=>aG T P f s (p+1) (cs.set n ((cs.getD n (0,0)).1,(s:Int)-((cs.getD n (0,0)).1:Int)))
  else if atP P p=37/\atP P (p+1)=98 then
   if P.length<=p+3 then .err
   else match lj T s (atP P (p+2)) (atP P (p+3))with
    |none=>.fail
    |some s'=>aG T P f s' (p+4) cs
  else match bp P p with
   |none=>.err
   |some e=>
    let sg:=fun s=>ar T P s p e
    let g:=fun s=>aG T P f s (e+1) cs
    if atP P e=42 then b9 (fun i=>g (s+i)) (cR (fun i=>sg (s+i)) (T.length+1) 0)
    else if atP P e=43 then(if sg s then b9 (fun i=>g (s+1+i)) (cR (fun i=>sg (s+1+i)) (T.length+1) 0)else .fail)
    else if atP P e=45 then cw g sg (T.length+2) s
    else if atP P e=63 then(if sg s then(match g (s+1)with|.fail=>g s|r=>r)else g s)
    else if sg s then aG T P f (s+1) e cs else .fail
def bW:aG T P (f+1) s p cs=(
  if P.length<=p then .ok s cs
  else if atP P p=40 then
   if 32<=cs.length then .err
   else if atP P (p+1)=41 then aG T P f s (p+2) (cs++[(s,-2)])else aG T P f s (p+1) (cs++[(s,-1)])
  else if atP P p=41 then
   match bz cs with
   |none=>.err
   |some n=>aG T P f s (p+1) (cs.set n ((cs.getD n (0,0)).1,(s:Int)-((cs.getD n (0,0)).1:Int)))
  else if atP P p=37/\atP P (p+1)=98 then
   if P.length<=p+3 then .err
   else match lj T s (atP P (p+2)) (atP P (p+3))with
    |none=>.fail
    |some s'=>aG T P f s' (p+4) cs
  else match bp P p with
   |none=>.err
   |some e=>
    let sg:=fun s=>ar T P s p e
    let g:=fun s=>aG T P f s (e+1) cs
    if atP P e=42 then b9 (fun i=>g (s+i)) (cR (fun i=>sg (s+i)) (T.length+1) 0)
    else if atP P e=43 then(if sg s then b9 (fun i=>g (s+1+i)) (cR (fun i=>sg (s+1+i)) (T.length+1) 0)else .fail)
    else if atP P e=45 then cw g sg (T.length+2) s
    else if atP P e=63 then(if sg s then(match g (s+1)with|.fail=>g s|r=>r)else g s)
    else if sg s then aG T P f (s+1) e cs else .fail):=rfl
set_option genCtorIdx false in
inductive NX where
 |a (e:IE)|call (f:Nat) (es:IEs)|callv (f:IE) (es:IEs)|cmp (op:uh) (l:NX) (r:IE)|isN (l:NX)|tupB (es:IEs)|bext (o:IE) (e:NX)|bapp (o e:IE)
set_option genCtorIdx false in
inductive NS where
 |a (s:IS)|seq (a b:NS)|ite (c:NX) (a b:NS)|while(c:IE) (b:NS)|ret (e:NX)|expr (e:NX)|asgT (xs:List Nat) (e:NX)|tryL (b h:NS)|tryR (b:NS)
def lI(v:AV)(H:AH):Prop:=∃j b,v=.ref j/\H[j]?=some (.barr b)
noncomputable def bT(Γ ΓN:cM)(cl:List Nat)(k:Nat)(hn:Bool)(loc:aM):NX->AH->QE->(AH->Prop)->Prop
 |.a e=>ae Γ cl k hn loc e
 |.call f es=>fun H Q E=>denEs Γ cl k hn loc es H (fun vs H1=>cF ΓN k hn f vs H1 Q E) E
 |.callv f es=>fun H Q E=>ae Γ cl k hn loc f H (fun g H0=>denEs Γ cl k hn loc es H0 (fun vs H1=>jm ΓN k hn g vs H1 Q E) E) E
 |.cmp op l r=>fun H Q E=>bT Γ ΓN cl k hn loc l H (fun a H1=>ae Γ cl k hn loc r H1 (fun b H2=>bQ op a b H2 (fun c=>Q (.bool c) H2)) E) E
 |.isN l=>fun H Q E=>bT Γ ΓN cl k hn loc l H (fun v H1=>Q (.bool (match v with|.none=>true|_=>false)) H1) E
 |.tupB es=>fun H Q E=>denEs Γ cl k hn loc es (H++[.barr []]) (fun vs H1=>vs.length+1<=fO/\Q (.ref H1.length) (H1++[.tup (.ref H.length::vs)])) E
 |.bext o e=>fun H Q E=>ae Γ cl k hn loc o H (fun u H1=>lI u H1/\bT Γ ΓN cl k hn loc e H1 (fun v H2=>rx u v H2 Q) E) E
 |.bapp o e=>fun H Q E=>ae Γ cl k hn loc o H (fun u H1=>lI u H1/\ae Γ cl k hn loc e H1 (fun v H2=>rt u v H2 Q) E) E
def rE(Γ ΓN:cM)(cl:List Nat)(k:Nat)(hn:Bool)(loc:aM):NX->AH->(Bool->AH->Prop)->(AH->Prop)->Prop
 |.a e=>denT Γ cl k hn loc e
 |.cmp op l r=>fun H Q E=>bT Γ ΓN cl k hn loc l H (fun a H1=>ae Γ cl k hn loc r H1 (fun b H2=>bQ op a b H2 (fun c=>Q c H2)) E) E
 |_=>fun _ _ _=>False
noncomputable def aA(Γ ΓN:cM)(ct:CT)(cl:List Nat)(k:Nat)(hn:Bool):NS->aM->AH->QS->ES->Prop
 |.a s,loc,H,Q,E=>aj Γ ct cl k hn s loc H Q E
 |.seq a b,loc,H,Q,E=>aA Γ ΓN ct cl k hn a loc H (tY (fun loc1 H1=>aA Γ ΓN ct cl k hn b loc1 H1 Q E) Q) E
 |.ite c a b,loc,H,Q,E=>rE Γ ΓN cl k hn loc c H (fun t H1=>if t then aA Γ ΓN ct cl k hn a loc H1 Q E else aA Γ ΓN ct cl k hn b loc H1 Q E) (E loc)
 |.while c b,loc,H,Q,E=>∃(I:Nat->aM->AH->Prop)(n:Nat),I n loc H/\∀(n:Nat)(loc1:aM)(H1:AH),bB H H1->I n loc1 H1->
   denT Γ cl k hn loc1 c H1 (fun t H2=>if t then aA Γ ΓN ct cl k hn b loc1 H2 (mQ I n Q) E else Q .next loc1 H2) (E loc1)
 |.ret e,loc,H,Q,E=>bT Γ ΓN cl k hn loc e H (fun v H1=>Q (.ret v) loc H1) (E loc)
 |.expr e,loc,H,Q,E=>bT Γ ΓN cl k hn loc e H (fun _ H1=>Q .next loc H1) (E loc)
 |.asgT xs e,loc,H,Q,E=>bT Γ ΓN cl k hn loc e H (fun v H1=>j5 Γ cl k hn (.tup xs) v loc H1 (fun loc1 H2=>Q .next loc1 H2) (E loc)) (E loc)
 |.tryL b h,loc,H,Q,E=>hn=true/\aA Γ ΓN ct cl k hn b loc H Q (fun loc1 H1=>aA Γ ΓN ct cl k false h loc1 (H1++[.exc]) Q (fun _ _=>False))
 |.tryR b,loc,H,Q,E=>aA Γ ΓN ct cl k hn b loc H Q (fun loc1 H1=>Q (.ret .none) loc1 H1)
section
variable{Γ ΓN:cM}{ct:CT}{cl:List Nat}{k:Nat}{hn:Bool}{loc:aM}{H:AH}{Q:QS}{E:ES}
def UI:aA Γ ΓN ct cl k hn (.a s) loc H Q E=aj Γ ct cl k hn s loc H Q E:=rfl
def Ts:aA Γ ΓN ct cl k hn (.seq a b) loc H Q E=aA Γ ΓN ct cl k hn a loc H (tY (fun loc1 H1=>aA Γ ΓN ct cl k hn b loc1 H1 Q E) Q) E:=rfl
def Tp:aA Γ ΓN ct cl k hn (.ite c a b) loc H Q E=rE Γ ΓN cl k hn loc c H (fun t H1=>if t then aA Γ ΓN ct cl k hn a loc H1 Q E else aA Γ ΓN ct cl k hn b loc H1 Q E) (E loc):=rfl
def QG:aA Γ ΓN ct cl k hn (.while c b) loc H Q E=∃(I:Nat->aM->AH->Prop)(n:Nat),I n loc H/\∀(n:Nat)(loc1:aM)(H1:AH),bB H H1->I n loc1 H1->
   denT Γ cl k hn loc1 c H1 (fun t H2=>if t then aA Γ ΓN ct cl k hn b loc1 H2 (mQ I n Q) E else Q .next loc1 H2) (E loc1):=rfl
def Tq:aA Γ ΓN ct cl k hn (.ret e) loc H Q E=bT Γ ΓN cl k hn loc e H (fun v H1=>Q (.ret v) loc H1) (E loc):=rfl
def Rt:aA Γ ΓN ct cl k hn (.expr e) loc H Q E=bT Γ ΓN cl k hn loc e H (fun _ H1=>Q .next loc H1) (E loc):=rfl
def Rr:aA Γ ΓN ct cl k hn (.asgT xs e) loc H Q E=bT Γ ΓN cl k hn loc e H (fun v H1=>j5 Γ cl k hn (.tup xs) v loc H1 (fun loc1 H2=>Q .next loc1 H2) (E loc)) (E loc):=rfl
def Ru:aA Γ ΓN ct cl k hn (.tryL b h) loc H Q E=(hn=true/\aA Γ ΓN ct cl k hn b loc H Q (fun loc1 H1=>aA Γ ΓN ct cl k false h loc1 (H1++[.exc]) Q (fun _ _=>False))):=rfl
def Rv:aA Γ ΓN ct cl k hn (.tryR b) loc H Q E=aA Γ ΓN ct cl k hn b loc H Q (fun loc1 H1=>Q (.ret .none) loc1 H1):=rfl
variable{Q:QE}{E:AH->Prop}
def UK:bT Γ ΓN cl k hn loc (.a e) H Q E=ae Γ cl k hn loc e H Q E:=rfl
def Ry:bT Γ ΓN cl k hn loc (.call f es) H Q E=denEs Γ cl k hn loc es H (fun vs H1=>cF ΓN k hn f vs H1 Q E) E:=rfl
def QH:bT Γ ΓN cl k hn loc (.callv f es) H Q E=ae Γ cl k hn loc f H (fun g H0=>denEs Γ cl k hn loc es H0 (fun vs H1=>jm ΓN k hn g vs H1 Q E) E) E:=rfl
def Tv:bT Γ ΓN cl k hn loc (.cmp op l r) H Q E=bT Γ ΓN cl k hn loc l H (fun a H1=>ae Γ cl k hn loc r H1 (fun b H2=>bQ op a b H2 (fun c=>Q (.bool c) H2)) E) E:=rfl
def Tw:bT Γ ΓN cl k hn loc (.isN l) H Q E=bT Γ ΓN cl k hn loc l H (fun v H1=>Q (.bool (match v with|.none=>true|_=>false)) H1) E:=rfl
def Rz:bT Γ ΓN cl k hn loc (.tupB es) H Q E=denEs Γ cl k hn loc es (H++[.barr []]) (fun vs H1=>vs.length+1<=fO/\Q (.ref H1.length) (H1++[.tup (.ref H.length::vs)])) E:=rfl
def Rx:bT Γ ΓN cl k hn loc (.bext o e) H Q E=ae Γ cl k hn loc o H (fun u H1=>lI u H1/\bT Γ ΓN cl k hn loc e H1 (fun v H2=>rx u v H2 Q) E) E:=rfl
def Rw:bT Γ ΓN cl k hn loc (.bapp o e) H Q E=ae Γ cl k hn loc o H (fun u H1=>lI u H1/\ae Γ cl k hn loc e H1 (fun v H2=>rt u v H2 Q) E) E:=rfl
variable{Q:Bool->AH->Prop}
def UJ:rE Γ ΓN cl k hn loc (.a e) H Q E=denT Γ cl k hn loc e H Q E:=rfl
def Tu:rE Γ ΓN cl k hn loc (.cmp op l r) H Q E=bT Γ ΓN cl k hn loc l H (fun a H1=>ae Γ cl k hn loc r H1 (fun b H2=>bQ op a b H2 (fun c=>Q c H2)) E) E:=rfl
end
noncomputable def dj:CT:=fun d=>[[0],[1,0],[2,1,0]].getD d []
end
local macro_rules | `(tactic| o_facts $x)=>do let l ← ("UI Ts Tp QG Tq Rt Rr Ru Rv UK Ry QH Tv Tw Rz Rx Rw UJ Tu nA wq IJ Q5 Rb PZ Q9 Q4 BY SM Q7 Kb IP SN SR SK Uo SO II SP SS BZ Ra Q8 Q6 P0 P6 Un SQ IM Q_ P5 IK P3 P4 P2 SL B0 xP S5 SX Up SZ S1 Rj IR Rl Kd IV SY Rk P9 P_ IU yx TK TJ RJ Rp Ro Tf Tg Rh B4 Kc IQ Rd Rc SW P8 Rg B3 Rf P7 Ri xQ SV Re SU TL J2 Fm J4 J3 TM wK jP UH lS de Nat.reduceBEq cond_true cond_false List.zip_cons_cons List.zip_nil_right List.cons_append List.nil_append List.foldl_cons List.foldl_nil List.getElem?_cons_zero List.getElem?_cons_succ".splitOn " ").toArray.mapM fun s=> `(Lean.Parser.Tactic.simpLemma| $(Lean.mkIdent s.toName):ident);`(tactic| (delta $x:ident;simp only [$l,*]))
section
def rQ(Q:QE):QS:=fun fl _ H=>match fl with|.ret v=>Q v H|.next=>Q .none H|_=>False
noncomputable abbrev d8(T P:List UInt8)(dep lev:Int)(ls ll:Nat):AO:=
 .dict [(0,.bytes T),(1,.bytes P),(2,.int 60),(3,.none),(4,.int dep),(5,.int lev),(6,.ref ls),(7,.ref ll)]
structure M0(H:AH)(m d:Nat)(T P:List UInt8)(dep lev:Int)(ls ll:Nat):Prop where
 i:H[m]?=some (.inst d)
 d:H[d]?=some (d8 T P dep lev ls ll)
 t:T.length<=100
 p:P.length<=20
structure Fr(S:Nat->Prop)(H H':AH):Prop where
 len:H.length<=H'.length
 keep:∀(i:Nat)(o:AO),H[i]?=some o->¬S i->H'[i]?=some o
abbrev a9(H H':AH):Prop:=Fr (fun _=>False) H H'
variable{H H1 H2:AH}{S:Nat->Prop}{m d ls ll:Nat}{T P:List UInt8}{dep lev:Int}
def Fr.refl(H:AH):Fr S H H:=⟨VB _,fun _ _ e _=>e⟩
def Fr.trans(a:Fr S H H1)(b:Fr S H1 H2):Fr S H H2:=⟨V4 a.len b.len,fun i o e n=>b.keep i o (a.keep i o e n) n⟩
def Fr.snoc(H:AH)(l:AH):Fr S H (H++l):=⟨by rw[VH];exact Ie,fun i o e _=>by rw[VF (Vn.mp e).1];exact e⟩
def Fr.of(a:a9 H H1):Fr S H H1:=⟨a.len,fun i o e _=>a.keep i o e (fun z=>z)⟩
def M0.ext(M:M0 H m d T P dep lev ls ll)(e:a9 H H1):M0 H1 m d T P dep lev ls ll:=⟨e.keep _ _ M.i (fun z=>z),e.keep _ _ M.d (fun z=>z),M.t,M.p⟩
section
variable(M:M0 H m d T P dep lev ls ll){Q:QE}{X:Prop}
include M
def M0.inst(h:X):qi (.ref m) H X:=by
 refine⟨_,_,_,rfl,M.i,M.d,fun p hp=>?_,h⟩;simp only[Vv,WD,or_false]at hp;rcases hp with rfl|rfl|rfl|rfl|rfl|rfl|rfl|rfl<;>(dsimp only;decide)
def M0.g0(h:Q (.bytes T) H):fU 0 (.ref m) H Q:=⟨_,_,_,_,rfl,M.i,M.d,rfl,h⟩
def M0.g1(h:Q (.bytes P) H):fU 1 (.ref m) H Q:=⟨_,_,_,_,rfl,M.i,M.d,rfl,h⟩
def M0.g2(h:Q (.int 60) H):fU 2 (.ref m) H Q:=⟨_,_,_,_,rfl,M.i,M.d,rfl,h⟩
def M0.g3(h:Q .none H):fU 3 (.ref m) H Q:=⟨_,_,_,_,rfl,M.i,M.d,rfl,h⟩
def M0.g4(h:Q (.int dep) H):fU 4 (.ref m) H Q:=⟨_,_,_,_,rfl,M.i,M.d,rfl,h⟩
def M0.g5(h:Q (.int lev) H):fU 5 (.ref m) H Q:=⟨_,_,_,_,rfl,M.i,M.d,rfl,h⟩
def M0.g6(h:Q (.ref ls) H):fU 6 (.ref m) H Q:=⟨_,_,_,_,rfl,M.i,M.d,rfl,h⟩
def M0.g7(h:Q (.ref ll) H):fU 7 (.ref m) H Q:=⟨_,_,_,_,rfl,M.i,M.d,rfl,h⟩
end
def len_bytes{Q:QE}(hz:b.length<=4096)(h:Q (.int (b.length:Int)) H):Cy (.bytes b) H Q:=.by _ rfl hz h
def a_{b:List UInt8}{p:Nat}{Q:QE}(hz:b.length<=4096)(hp:p<b.length)(h:Q (.int (atP b p:Int)) H):qd gl (.bytes b) (.int p) H Q:=by
 delta atP at h;rw[Vw hp]at h;exact .by _ _ b[p] rfl rfl (Ws _) hz (by rw[WH,Vw hp]) h
def Ip:atP P p<256:=by
 show(match P[p]?with|some c=>c.toNat|none=>0)<256;induction P[p]? using Option.casesOn with
 |some c=>exact UInt8.toNat_lt _
 |none=>decide
def nh{p:Nat}(h:P.length<=p):atP P p=0:=by
 unfold atP;rw[W_ h]
def kB{a b:Int}{Q:Bool->Prop}(h:Q (bk op a b)):bQ op (.int a) (.int b) H Q:=.ii _ _ rfl rfl h
def kc [Decidable c]{A B:Prop}(h1:c->A)(h2:¬c->B):if decide c=true then A else B:=by
 by_cases h:c
 ·rw[if_pos (decide_eq_true h)];exact h1 h
 ·rw[if_neg (by simp[h])];exact h2 h
def u3{A B:Prop}(h1:b=true->A)(h2:b=false->B):if b=true then A else B:=by
 induction b using Vu
 ·exact h2 rfl
 ·exact h1 rfl
variable{Γ:cM}{ct:CT}{k:Nat}{hn:Bool}{Q:QE}{E:ES}
def QY{p:Nat}(M:M0 H m d T P dep lev ls ll)(q:Q (.int (atP P p:Int)) H):
  aj Γ ct [] k hn xY [(0,.ref m),(1,.int p)] H (rQ Q) E:=by
 have hz:=M.p;o_facts xY;refine M.g1 (len_bytes (dh hz) (kB (kc (fun hc=>?_) (fun hc=>?_))))
 ·exact M.g1 (a_ (dh hz) (Sq hc) q)
 ·rw[nh (by exact Sr hc)]at q;exact q
end
section
noncomputable def DP(l:Nat):Bool:=l==0||l==97||l==45||l==37||l==40||l==46||l==63||l==41||l==98||l==42||l==91||l==93||l==43||l==94
def bP(P:List UInt8):Prop:=P.length<=20/\∀b∈P,DP b.toNat=true/\b.toNat≠0
set_option tactic.hygienic true in
def bP.at(h:bP P)(p:Nat):DP (atP P p)=true:=by
 unfold atP
 split
 ·rename_i c hc;exact(h.2 c (VP hc)).1
 ·rfl
structure MS(H:AH)(m d:Nat)(T P:List UInt8)(dep ls ll:Nat)(cs:List cq):Prop where
 m:M0 H m d T P dep cs.length ls ll
 s:∃xs:List Int,H[ls]?=some (.list (xs.map AV.int))/\xs.length<=40/\xs.take cs.length=cs.map (fun c=>(c.1:Int))
 l:∃ys:List Int,H[ll]?=some (.list (ys.map AV.int))/\ys.length<=40/\ys.take cs.length=cs.map (·.2)
 ne:ls≠ll
def dU(H:AH)(m d:Nat)(T P:List UInt8)(dep ll:Nat)(cs:List cq)(r:jh)(Q:QE)(E:AH->Prop):Prop:=match r with
 |.err=>∀H',Fr (fun i=>i=d\/i=ll) H H'->E H'
 |.fail=>∀H' ls' ll',Fr (fun i=>i=d\/i=ll) H H'->MS H' m d T P dep ls' ll' cs->(ll'=ll\/H.length<=ll')->Q .none H'
 |.ok e cs'=>∀H' ls' ll',Fr (fun i=>i=d\/i=ll) H H'->MS H' m d T P dep ls' ll' cs'->(ll'=ll\/H.length<=ll')->Q (.int (e:Int)) H'
inductive tP(k:Nat)(hn:Bool)(args:List AV)(H:AH)(Q:QE)(E:AH->Prop):Prop
 |mk (c:Nat):args=[.int c]->1<=k->Q (.bool (decide (97<=c)&&decide (c<=122))) H->tP k hn args H Q E
inductive tU(k:Nat)(hn:Bool)(args:List AV)(H:AH)(Q:QE)(E:AH->Prop):Prop
 |mk (c:Nat):args=[.int c]->1<=k->Q (.bool (decide (65<=c)&&decide (c<=90))) H->tU k hn args H Q E
inductive tF(k:Nat)(hn:Bool)(args:List AV)(H:AH)(Q:QE)(E:AH->Prop):Prop
 |mk (c:Nat):args=[.int c]->2<=k->Q (.bool (mJ c)) H->tF k hn args H Q E
inductive tJ(k:Nat)(hn:Bool)(args:List AV)(H:AH)(Q:QE)(E:AH->Prop):Prop
 |mk (c:Nat):args=[.int c]->1<=k->Q (.bool (decide (48<=c)&&decide (c<=57))) H->tJ k hn args H Q E
inductive tH(k:Nat)(hn:Bool)(args:List AV)(H:AH)(Q:QE)(E:AH->Prop):Prop
 |mk (c l:Nat):args=[.int c,.int l]->DP l=true->3<=k->Q (.bool (gc c l)) H->tH k hn args H Q E
inductive yw(k:Nat)(hn:Bool)(args:List AV)(H:AH)(Q:QE)(E:AH->Prop):Prop
 |mk (m d:Nat)(T P:List UInt8):args=[.ref m,.bytes T,.bytes P]->H[m]?=some (.inst d)->H[d]?=some (.dict [])->T.length<=100->bP P->1<=k->(∀H' ls ll,Fr (fun i=>i=d) H H'->MS H' m d T P 0 ls ll []->H.length<=ll->Q .none H')->yw k hn args H Q E
inductive tI(k:Nat)(hn:Bool)(args:List AV)(H:AH)(Q:QE)(E:AH->Prop):Prop
 |mk (m d:Nat)(T P:List UInt8)(dep lev:Int)(ls ll:Nat):args=[.ref m]->M0 H m d T P dep lev ls ll->1<=k->Q .none H->tI k hn args H Q E
inductive tR(k:Nat)(hn:Bool)(args:List AV)(H:AH)(Q:QE)(E:AH->Prop):Prop
 |mk (m d:Nat)(T P:List UInt8)(dep lev:Int)(ls ll:Nat):args=[.ref m]->M0 H m d T P dep lev ls ll->1<=k->(∀H' ls ll,Fr (fun i=>i=d) H H'->MS H' m d T P 0 ls ll []->H.length<=ll->Q .none H')->tR k hn args H Q E
inductive RH(k:Nat)(hn:Bool)(args:List AV)(H:AH)(Q:QE)(E:AH->Prop):Prop
 |mk (m d p:Nat)(T P:List UInt8)(dep lev:Int)(ls ll:Nat):args=[.ref m,.int p]->M0 H m d T P dep lev ls ll->1<=k->Q (.int (atP P p:Int)) H->RH k hn args H Q E
inductive ko(k:Nat)(hn:Bool)(args:List AV)(H:AH)(Q:QE)(E:AH->Prop):Prop
 |mk (m d p:Nat)(T P:List UInt8)(dep lev:Int)(ls ll:Nat):args=[.ref m,.int p]->M0 H m d T P dep lev ls ll->5<=k->(match bp P p with|none=>E H|some e=>Q (.int (e:Int)) H)->ko k hn args H Q E
inductive tL(k:Nat)(hn:Bool)(args:List AV)(H:AH)(Q:QE)(E:AH->Prop):Prop
 |mk (m d c p last:Nat)(T P:List UInt8)(dep lev:Int)(ls ll:Nat):args=[.ref m,.int c,.int p,.int last]->M0 H m d T P dep lev ls ll->bP P->last<=P.length->4<=k->Q (.bool (sY P c p last)) H->tL k hn args H Q E
inductive pq(k:Nat)(hn:Bool)(args:List AV)(H:AH)(Q:QE)(E:AH->Prop):Prop
 |mk (m d s p e:Nat)(T P:List UInt8)(dep lev:Int)(ls ll:Nat):args=[.ref m,.int s,.int p,.int e]->M0 H m d T P dep lev ls ll->bP P->p<P.length->(atP P p=37->p+1<P.length)->1<=e->e<=P.length->5<=k->(∀H',a9 H H'->Q (.bool (ar T P s p e)) H')->pq k hn args H Q E
inductive Fj(k:Nat)(hn:Bool)(args:List AV)(H:AH)(Q:QE)(E:AH->Prop):Prop
 |mk (m d s p:Nat)(T P:List UInt8)(dep lev:Int)(ls ll:Nat):args=[.ref m,.int s,.int p]->M0 H m d T P dep lev ls ll->5<=k->(if P.length<=p+1 then E H else∀H',a9 H H'->match lj T s (atP P p) (atP P (p+1))with|none=>Q .none H'|some s'=>Q (.int (s':Int)) H')->Fj k hn args H Q E
inductive mW(k:Nat)(hn:Bool)(args:List AV)(H:AH)(Q:QE)(E:AH->Prop):Prop
 |mk (m d s p:Nat)(T P:List UInt8)(dep lev:Int)(ls ll:Nat):args=[.ref m,.int s,.int p,.int 98]->M0 H m d T P dep lev ls ll->6<=k->(if P.length<=p+3 then E H else∀H' t,a9 H H'->H'[t]?=some (.tup [match lj T s (atP P (p+2)) (atP P (p+3))with|none=>.none|some s'=>.int (s':Int),.int ((p+4:Nat):Int)])->Q (.ref t) H')->mW k hn args H Q E
inductive tQ(k:Nat)(hn:Bool)(args:List AV)(H:AH)(Q:QE)(E:AH->Prop):Prop
 |mk (m d s p:Nat)(T P:List UInt8)(dep ls ll:Nat)(cs:List cq)(f:Nat):args=[.ref m,.int s,.int p]->MS H m d T P dep ls ll cs->bP P->p<=P.length->P.length+1<=f+p->dep+f<=59->3*f+10<=k->dU H m d T P dep ll cs (aG T P f s p cs) Q E->tQ k hn args H Q E
inductive yv(k:Nat)(hn:Bool)(args:List AV)(H:AH)(Q:QE)(E:AH->Prop):Prop
 |mk (m d s p:Nat)(T P:List UInt8)(dep ls ll:Nat)(cs:List cq)(f:Nat):args=[.ref m,.int s,.int p]->MS H m d T P dep ls ll cs->bP P->p<=P.length->P.length+1<=f+p->dep+f<=60->3*f+9<=k->dU H m d T P dep ll cs (aG T P f s p cs) Q E->yv k hn args H Q E
inductive yB(k:Nat)(hn:Bool)(args:List AV)(H:AH)(Q:QE)(E:AH->Prop):Prop
 |mk (m d s p e:Nat)(T P:List UInt8)(dep ls ll:Nat)(cs:List cq)(f:Nat):args=[.ref m,.int s,.int p,.int e]->MS H m d T P dep ls ll cs->bP P->p<P.length->(atP P p=37->p+1<P.length)->1<=e->e<P.length->P.length<=f+e->dep+f<=59->3*f+11<=k->dU H m d T P dep ll cs (b9 (fun i=>aG T P f (s+i) (e+1) cs) (cR (fun i=>ar T P (s+i) p e) (T.length+1) 0)) Q E->yB k hn args H Q E
inductive tO(k:Nat)(hn:Bool)(args:List AV)(H:AH)(Q:QE)(E:AH->Prop):Prop
 |mk (m d s p e:Nat)(T P:List UInt8)(dep ls ll:Nat)(cs:List cq)(f:Nat):args=[.ref m,.int s,.int p,.int e]->MS H m d T P dep ls ll cs->bP P->p<P.length->(atP P p=37->p+1<P.length)->1<=e->e<P.length->P.length<=f+e->dep+f<=59->3*f+11<=k->dU H m d T P dep ll cs (cw (fun s=>aG T P f s (e+1) cs) (fun s=>ar T P s p e) (T.length+2) s) Q E->tO k hn args H Q E
inductive tT(k:Nat)(hn:Bool)(args:List AV)(H:AH)(Q:QE)(E:AH->Prop):Prop
 |mk (m d s p:Nat)(kind:Int)(T P:List UInt8)(dep ls ll:Nat)(cs:List cq)(f:Nat):args=[.ref m,.int s,.int p,.int kind]->MS H m d T P dep ls ll cs->bP P->p<=P.length->P.length+1<=f+p->dep+f<=59->3*f+11<=k->dU H m d T P dep ll cs (if 32<=cs.length then .err else aG T P f s p (cs++[(s,kind)])) Q E->tT k hn args H Q E
inductive Fl(k:Nat)(hn:Bool)(args:List AV)(H:AH)(Q:QE)(E:AH->Prop):Prop
 |mk (m d s p:Nat)(T P:List UInt8)(dep ls ll:Nat)(cs:List cq)(f:Nat):args=[.ref m,.int s,.int p]->MS H m d T P dep ls ll cs->bP P->p<=P.length->P.length+1<=f+p->dep+f<=59->3*f+11<=k->dU H m d T P dep ll cs (match bz cs with|none=>.err|some n=>aG T P f s p (cs.set n ((cs.getD n (0,0)).1,(s:Int)-((cs.getD n (0,0)).1:Int)))) Q E->Fl k hn args H Q E
inductive mX(k:Nat)(hn:Bool)(args:List AV)(H:AH)(Q:QE)(E:AH->Prop):Prop
 |mk (m d:Nat)(T P:List UInt8)(dep ls ll:Nat)(cs:List cq):args=[.ref m]->MS H m d T P dep ls ll cs->5<=k->(match bz cs with|none=>E H|some n=>Q (.int (n:Int)) H)->mX k hn args H Q E
noncomputable def lq(T:List UInt8)(cs:List cq)(n s e:Nat):Option AV:=
 if cs.length<=n then(if 0<n then none else some (.bytes (cut T (min s T.length) (min e T.length))))
 else match cs[n]?with
  |some (st,len)=>if len=-1 then none else if len=-2 then some (.int ((st+1:Nat):Int))else some (.bytes (cut T (min st T.length) (min (st+len.toNat) T.length)))
  |none=>none
def je(T:List UInt8)(cs:List cq):Prop:=∀c∈cs,-2<=c.2
inductive mV(k:Nat)(hn:Bool)(args:List AV)(H:AH)(Q:QE)(E:AH->Prop):Prop
 |mk (m d n s e:Nat)(T P:List UInt8)(dep ls ll:Nat)(cs:List cq):args=[.ref m,.int n,.int s,.int e]->MS H m d T P dep ls ll cs->je T cs->5<=k->(match lq T cs n s e with|none=>∀H',a9 H H'->E H'|some v=>∀H',a9 H H'->Q v H')->mV k hn args H Q E
inductive yC(k:Nat)(hn:Bool)(args:List AV)(H:AH)(Q:QE)(E:AH->Prop):Prop
 |mk (b:List UInt8):args=[.bytes b]->1<=k->Q (.bytes b) H->yC k hn args H Q E
noncomputable def fF(cs:List cq):Bool:=cs.any fun c=>decide (c.2=-1)
inductive km(k:Nat)(hn:Bool)(args:List AV)(H:AH)(Q:QE)(E:AH->Prop):Prop
 |mk (m d s e:Nat)(T P:List UInt8)(dep ls ll:Nat)(cs:List cq):args=[.ref m,.int s,.int e,.bool true]->MS H m d T P dep ls ll cs->je T cs->6<=k->hn=true->cs.length<=40->(if fF cs then∀H',a9 H H'->E H' else∀H' v,a9 H H'->Q v H')->km k hn args H Q E
inductive vZ where
 |err|none|at(b e:Nat)(cs:List cq)
noncomputable def bu(T P:List UInt8):Nat->Nat->vZ
 |0,_=>.none
 |f+1,b=>if T.length<b then .none else match aG T P (P.length+1) b 0 []with
  |.err=>.err
  |.fail=>bu T P f (b+1)
  |.ok e cs=>.at b e cs
def bK:bu T P (f+1) b=(if T.length<b then .none else match aG T P (P.length+1) b 0 []with
  |.err=>.err
  |.fail=>bu T P f (b+1)
  |.ok e cs=>.at b e cs):=rfl
inductive tK(k:Nat)(hn:Bool)(args:List AV)(H:AH)(Q:QE)(E:AH->Prop):Prop
 |mk (m d b cm ea:Nat)(T P:List UInt8)(dep lev:Int)(ls ll:Nat):args=[.int T.length,.int b,.bool false,.ref ea]->M0 H m d T P dep lev ls ll->bP P->H[cm]?=some (.cell (some (.ref m)))->H[ea]?=some (.clos 0 [cm])->90<=k->(match bu T P (T.length+1) b with
 |.err=>∀H',Fr (fun i=>i=d) H H'->E H'
 |.none=>∀H' dep lev ls ll,Fr (fun i=>i=d) H H'->M0 H' m d T P dep lev ls ll->Q .none H'
 |.at b' e cs=>∀H' ls ll t,Fr (fun i=>i=d) H H'->MS H' m d T P 0 ls ll cs->H'[t]?=some (.tup [.int b',.int e])->H.length<=t->Q (.ref t) H')->tK k hn args H Q E
inductive yr(cl:List Nat)(k:Nat)(hn:Bool)(args:List AV)(H:AH)(Q:QE)(E:AH->Prop):Prop
 |mk (m d b cm:Nat)(T P:List UInt8)(dep lev:Int)(ls ll:Nat):args=[.int b]->cl=[cm]->M0 H m d T P dep lev ls ll->bP P->H[cm]?=some (.cell (some (.ref m)))->80<=k->(match aG T P (P.length+1) b 0 []with
 |.err=>∀H',Fr (fun i=>i=d) H H'->E H'
 |.fail=>∀H' ls ll,Fr (fun i=>i=d) H H'->MS H' m d T P 0 ls ll []->Q .none H'
 |.ok e cs=>∀H' ls ll,Fr (fun i=>i=d) H H'->MS H' m d T P 0 ls ll cs->Q (.int e) H')->yr cl k hn args H Q E
noncomputable def behindN(b e:Nat):Nat:=if b<e then e else e+1
inductive pn(k:Nat)(hn:Bool)(args:List AV)(H:AH)(Q:QE)(E:AH->Prop):Prop
 |mk (b e:Nat):args=[.int b,.int e]->1<=k->Q (.int (behindN b e)) H->pn k hn args H Q E
inductive yD(k:Nat)(hn:Bool)(args:List AV)(H:AH)(Q:QE)(E:AH->Prop):Prop
 |mk (bag sl a many:Nat)(xs:List Int):args=[.ref bag,.int many]->H[bag]?=some (.dict [(8,.ref sl),(9,.int a)])->H[sl]?=some (.list (xs.map AV.int))->xs.length<=20->a<=100->0<many->1<=k->(∀v:Nat,v<many->Q (.int v) (H.set bag (.dict [(8,.ref sl),(9,.int ((a+1:Nat):Int))])))->yD k hn args H Q E
inductive tM(k:Nat)(hn:Bool)(args:List AV)(H:AH)(Q:QE)(E:AH->Prop):Prop
 |mk (m:Nat):args=[.ref m]->1<=k->(∀H' cm ea,a9 H H'->H'[cm]?=some (.cell (some (.ref m)))->H'[ea]?=some (.clos 0 [cm])->H.length<=cm->H.length<=ea->Q (.ref ea) H')->tM k hn args H Q E
inductive tN(k:Nat)(hn:Bool)(args:List AV)(H:AH)(Q:QE)(E:AH->Prop):Prop
 |mk (m:Nat)(news:List UInt8):args=[.ref m,.bytes news]->1<=k->(∀H' cm cn ga,a9 H H'->H'[cm]?=some (.cell (some (.ref m)))->H'[cn]?=some (.cell (some (.bytes news)))->H'[ga]?=some (.clos 1 [cn,cm])->
 H.length<=cm->H.length<=cn->H.length<=ga->Q (.ref ga) H')->tN k hn args H Q E
abbrev bR:=Nat×Nat
noncomputable def eF(T P:List UInt8):Nat->Nat->List bR->Bool->Option (List bR×Bool)
 |0,_,acc,odd=>some (acc,odd)
 |f+1,b,acc,odd=>match bu T P (T.length+1) b with
  |.err=>none
  |.none=>some (acc,odd)
  |.at b' e cs=>eF T P f (behindN b' e) (acc++[(b',e)]) (odd||fF cs)
def cz:eF T P (f+1) b acc odd=(match bu T P (T.length+1) b with
  |.err=>none
  |.none=>some (acc,odd)
  |.at b' e cs=>eF T P f (behindN b' e) (acc++[(b',e)]) (odd||fF cs)):=rfl
noncomputable def spansN(T P:List UInt8):Option (List bR×Bool):=eF T P (T.length+2) 0 [] false
def aD(H:AH)(l:Nat)(sp:List bR):Prop:=∃ts:List Nat,H[l]?=some (.list (ts.map AV.ref))/\ts.length=sp.length/\∀(i t:Nat) (x:bR),ts[i]?=some t->sp[i]?=some x->H[t]?=some (.tup [.int x.1,.int x.2])
inductive tS(k:Nat)(hn:Bool)(args:List AV)(H:AH)(Q:QE)(E:AH->Prop):Prop
 |mk (T P:List UInt8):args=[.bytes T,.bytes P]->bP P->T.length<=20->hn=true->100<=k->(match spansN T P with
 |none=>∀H',a9 H H'->E H'
 |some (sp,odd)=>∀H' t l,a9 H H'->H'[t]?=some (.tup [.ref l,.bool odd])->aD H' l sp->Q (.ref t) H')->tS k hn args H Q E
noncomputable def fh(T:List UInt8):List bR->List UInt8->Nat->List UInt8×Nat
 |[],found,at'=>(found,at')
 |(b,e)::r,found,at'=>fh T r (found++cut T (min at' T.length) (min b T.length)++[45]++cut T (min b T.length) (min e T.length)++[37]) e
def Cu:fh T ((b,e)::r) found a=(fh T r (found++cut T (min a T.length) (min b T.length)++[45]++cut T (min b T.length) (min e T.length)++[37]) e):=rfl
noncomputable def mO(T:List UInt8)(sp:List bR):List UInt8:=(fh T sp [] 0).1++cut T (min (fh T sp [] 0).2 T.length) T.length
inductive yz(k:Nat)(hn:Bool)(args:List AV)(H:AH)(Q:QE)(E:AH->Prop):Prop
 |mk (l:Nat)(T:List UInt8)(sp:List bR):args=[.bytes T,.ref l]->aD H l sp->sp.length<=30->T.length<=20->hn=true->1<=k->(∀H' t,a9 H H'->H'[t]?=some (.tup [.bytes (mO T sp),.int sp.length])->Q (.ref t) H')->yz k hn args H Q E
noncomputable def eu(T:List UInt8)(cs:List cq)(n b e:Nat):Option AV:=if n=0 then some (.bytes (cut T (min b T.length) (min e T.length)))else lq T cs (n-1) b e
inductive yu(cl:List Nat)(k:Nat)(hn:Bool)(args:List AV)(H:AH)(Q:QE)(E:AH->Prop):Prop
 |mk (m d b e n cb ce cm:Nat)(T P:List UInt8)(dep ls ll:Nat)(cs:List cq):args=[.int n]->cl=[cm,ce,cb]->MS H m d T P dep ls ll cs->je T cs->H[cb]?=some (.cell (some (.int b)))->H[ce]?=some (.cell (some (.int e)))->H[cm]?=some (.cell (some (.ref m)))->7<=k->(match eu T cs n b e with|none=>∀H',a9 H H'->E H'|some (.bytes x)=>∀H',a9 H H'->Q (.bytes x) H'|some _=>False)->yu cl k hn args H Q E
noncomputable def t8:List (Nat×iH):=[(70,tP),(77,tU),(84,tF),(91,tJ),(126,tH),(141,yw),(148,tI),(155,tR),(162,RH),(169,ko),(176,tL),(183,pq),(190,tQ),(197,yv),(204,mW),(211,Fj),(225,yB),(232,tO),(239,tT),(246,Fl),(253,mX),(267,mV),(272,km),(28,yC),(293,tK),(300,pn),(308,yD),(315,tM),(322,tN),(336,tS),(343,yz)]
noncomputable def yG(f:Nat):List (Nat×iH)->iH
 |[]=>fun _ _ _ _ _ _=>False
 |p::r=>bif Nat.beq p.1 f then p.2 else yG f r
def xa(f:Nat):iH:=yG f t8
noncomputable def Kk(F:Nat×iH->Prop):List (Nat×iH)->Prop
 |[]=>True
 |p::r=>F p/\Kk F r
theorem n7{C:Nat->Prop}:∀{l:List (Nat×iH)},Kk (fun p=>p.2 k hn args H Q E->C p.1) l->yG f l k hn args H Q E->C f
 |[],_,h=>Xn h
 |p::r,a,h=>by
  have h:(bif Nat.beq p.1 f then p.2 else yG f r) k hn args H Q E:=h;induction e:Nat.beq p.1 f using Vu with
  |true=>rw[e]at h;exact Nat.eq_of_beq_eq_true e▸a.1 h
  |false=>rw[e]at h;exact n7 a.2 h
def w':Nat->List Nat->iH
 |0,cl=>yr cl
 |2,cl=>yu cl
 |_,_=>fun _ _ _ _ _ _=>False
noncomputable def Gm(gl:GL)(n:Nat):cM where
 fn f k hn args H Q E:=k<=n/\xa f k hn args H Q E
 clos c cl k hn args H Q E:=k<=n/\w' c cl k hn args H Q E
 init:=141
 gl:=gl
def au(hk:k<=n)(h:xa f k hn vs H (fun v H1=>bB H H1->Q v H1) (fun H1=>bB H H1->E H1)):cF (Gm gl n) k hn f vs H Q E:=⟨hk,h⟩
end
section
variable{H H1 H2:AH}{S:Nat->Prop}{m d ls ll:Nat}{T P:List UInt8}{dep lev:Int}{gl:GL}{n k:Nat}{hn:Bool}{ct:CT}{cl:List Nat}{args:List AV}{Q:QE}{E:AH->Prop}
def Qn{A B:Prop}(e:b=true)(h:A):if b=true then A else B:=by rw[if_pos e];exact h
def u4{b:Bool}{A B:Prop}(e:b=false)(h:B):if b=true then A else B:=by rw[e,if_neg (by decide)];exact h
def xO(e:bk op a b=true)(h:A):bQ op (.int a) (.int b) H (fun c=>aE (.bool c) (fun b=>if b=true then A else B)):=by
 exact kB (show if bk op a b=true then A else B by rw[if_pos e];exact h)
def BC{op:uh}{a b:Int}{H:AH}{A B:Prop}(e:bk op a b=false)(h:B):bQ op (.int a) (.int b) H (fun c=>aE (.bool c) (fun b=>if b=true then A else B)):=by
 exact kB (show if bk op a b=true then A else B by rw[e,if_neg (by decide)];exact h)
def DC(h:tP k hn args H Q E)(hk:k<=n+1):aj (Gm gl n) ct cl (k-1) hn jE ([3].zip args) H (rQ Q) (fun _=>E):=by
 obtain⟨c,rfl,h1,q⟩:=h;o_facts jE;refine kB (kc (fun hc=>kB ?_) (fun hc=>?_))
 ·show Q (.bool (decide ((c:Int)<=122))) H
  simpa [show 97<=c from by exact Ss hc,show((c:Int)<=122)↔c<=122 from by exact Su]using q
 ·show Q (.bool false) H
  simpa [show¬97<=c from by exact Sv hc]using q
def DJ(h:tU k hn args H Q E)(hk:k<=n+1):aj (Gm gl n) ct cl (k-1) hn jK ([3].zip args) H (rQ Q) (fun _=>E):=by
 obtain⟨c,rfl,h1,q⟩:=h;o_facts jK;refine kB (kc (fun hc=>kB ?_) (fun hc=>?_))
 ·show Q (.bool (decide ((c:Int)<=90))) H
  simpa [show 65<=c from by exact Sx hc,show((c:Int)<=90)↔c<=90 from by exact Sy]using q
 ·show Q (.bool false) H
  simpa [show¬65<=c from by exact Sz hc]using q
def Dw(h:tJ k hn args H Q E)(hk:k<=n+1):aj (Gm gl n) ct cl (k-1) hn jD ([3].zip args) H (rQ Q) (fun _=>E):=by
 obtain⟨c,rfl,h1,q⟩:=h;o_facts jD;refine kB (kc (fun hc=>kB ?_) (fun hc=>?_))
 ·show Q (.bool (decide ((c:Int)<=57))) H
  simpa [show 48<=c from by exact SB hc,show((c:Int)<=57)↔c<=57 from by exact SC]using q
 ·show Q (.bool false) H
  simpa [show¬48<=c from by exact SD hc]using q
def Dt(h:tF k hn args H Q E)(hk:k<=n+1):aj (Gm gl n) ct cl (k-1) hn jC ([3].zip args) H (rQ Q) (fun _=>E):=by
 obtain⟨c,rfl,h1,q⟩:=h;o_facts jC;refine au (aZ hk) ⟨c,rfl,by exact Io h1,fun _=>?_⟩;refine u3 (fun hc=>?_) (fun hc=>?_)
 ·show Q (.bool _) H;unfold mJ at q;rw[hc]at q⊢;exact q
 ·refine au (aZ hk) ⟨c,rfl,by exact Io h1,fun _=>?_⟩;show Q (.bool _) H;unfold mJ at q;rw[hc]at q;exact q
def okN_cases(h:DP l=true):l=0\/l=97\/l=45\/l=37\/l=40\/l=46\/l=63\/l=41\/l=98\/l=42\/l=91\/l=93\/l=43\/l=94:=by
 simpa only [DP,Ys,beq_iff_eq,or_assoc]using h
def JW(h:DP l=true)(x:Nat)(hx:DP x=false):¬(l:Int)=(x:Int):=fun e=>by
 rw[ZE.mp e,hx]at h;injection h
def Du(h:tH k hn args H Q E)(hk:k<=n+1):aj (Gm gl n) ct cl (k-1) hn jA ([3,5].zip args) H (rQ Q) (fun _=>E):=by
 obtain⟨c,l,rfl,hl,h1,q⟩:=h;have up:(decide (65<=l)&&decide (l<=90))=false:=by rcases okN_cases hl with rfl|rfl|rfl|rfl|rfl|rfl|rfl|rfl|rfl|rfl|rfl|rfl|rfl|rfl<;>rfl
 o_facts jA;refine au (aZ hk) ⟨l,rfl,by exact PJ h1,fun _=>?_⟩;refine u3 (fun hc=>absurd hc (by rw[up];decide)) (fun hc=>?_);by_cases h97:l=97
 ·subst h97;o_facts kN;refine xO rfl ?_;refine au (aZ hk) ⟨c,rfl,by exact SE h1,fun _=>?_⟩;refine au (aZ hk) ⟨97,rfl,by exact PJ h1,fun _=>?_⟩;exact q
 ·have e:gc c l=decide (l=c):=by unfold gc;rw[if_neg h97]
  rw[e]at q;refine kB (kc (fun hc=>absurd hc (SG h97)) (fun hc=>?_))
  iterate 9 refine kB (kc (fun hc=>absurd hc (JW hl _ rfl)) (fun hc=>?_))
  refine kB ?_;show Q (.bool (decide ((l:Int)=c))) H
  simpa [show((l:Int)=c)↔l=c from by exact PL]using q
def Dv(h:tI k hn args H Q E)(hk:k<=n+1):aj (Gm gl n) ct cl (k-1) hn qm ([0].zip args) H (rQ Q) (fun _=>E):=by
 obtain⟨m,d,T,P,dep,lev,ls,ll,rfl,M,h1,q⟩:=h;o_facts qm;exact M.g3 q
def J7(h:RH k hn args H Q E)(hk:k<=n+1):aj (Gm gl n) ct [] (k-1) hn xY ([0,1].zip args) H (rQ Q) (fun _=>E):=by
 obtain⟨m,d,p,T,P,dep,lev,ls,ll,rfl,M,h1,q⟩:=h;exact QY M q
def aV{i j:Nat}{o:AO}(h:i≠j):(H.set j o)[i]?=H[i]?:=Xa (XD h)
def dy(h:H[i]?=some o'):(H.set i o)[i]?=some o:=W0 (Vn.mp h).1
def aB(H:AH)(o:AO):(H++[o])[H.length]?=some o:=by simp
def aQ{i:Nat}{o:AO}(h:H[i]?=some o):(H++l)[i]?=some o:=by
 rw[VF (Vn.mp h).1];exact h
def hZ{i:Nat}{o:AO}(h:H[i]?=some o):i<H.length:=(Vn.mp h).1
def Fr.set{o:AO}:Fr (fun j=>j=i) H (H.set i o):=⟨by rw[WB];exact VB _,fun j x e n=>by rw[aV n];exact e⟩
def Fr.mono(h:∀i,S i->S' i)(f:Fr S H H1):Fr S' H H1:=⟨f.len,fun i o e n=>f.keep i o e (fun z=>n (h i z))⟩
def M0.md(M:M0 H m d T P dep lev ls ll):m≠d:=fun e=>by
 have:=M.i;rw[e,M.d]at this;cases this
def M0.upd(M:M0 H m d T P dep lev ls ll)(dep' lev':Int)(ls' ll':Nat):M0 (H.set d (d8 T P dep' lev' ls' ll')) m d T P dep' lev' ls' ll':=
 ⟨by rw[aV M.md];exact M.i,dy M.d,M.t,M.p⟩
section
variable(M:M0 H m d T P dep lev ls ll){Q:AH->Prop}
include M
def M0.s4{v:Int}(h:Q (H.set d (d8 T P v lev ls ll))):lT 4 (.ref m) (.int v) H Q:=⟨_,_,_,rfl,M.i,M.d,by show 8<100;decide,h⟩
def M0.s5{v:Int}(h:Q (H.set d (d8 T P dep v ls ll))):lT 5 (.ref m) (.int v) H Q:=⟨_,_,_,rfl,M.i,M.d,by show 8<100;decide,h⟩
def M0.s6{v:Nat}(h:Q (H.set d (d8 T P dep lev v ll))):lT 6 (.ref m) (.ref v) H Q:=⟨_,_,_,rfl,M.i,M.d,by show 8<100;decide,h⟩
def M0.s7{v:Nat}(h:Q (H.set d (d8 T P dep lev ls v))):lT 7 (.ref m) (.ref v) H Q:=⟨_,_,_,rfl,M.i,M.d,by show 8<100;decide,h⟩
end
def M0.app(M:M0 H m d T P dep lev ls ll)(l:AH):M0 (H++l) m d T P dep lev ls ll:=⟨aQ M.i,aQ M.d,M.t,M.p⟩
def DG(h:tR k hn args H Q E)(hk:k<=n+1):aj (Gm gl n) ct cl (k-1) hn qs ([0].zip args) H (rQ Q) (fun _=>E):=by
 obtain⟨m,d,T,P,dep,lev,ls,ll,rfl,M,h1,q⟩:=h;o_facts qs;refine M.s4 ?_;have M1:=M.upd 0 lev ls ll;refine M1.s5 ?_;have M2:=M1.upd 0 0 ls ll;refine⟨Wy _,?_⟩;have M3:=M2.app [.list []];refine M3.s6 ?_;have M4:=M3.upd 0 0 ((H.set d (d8 T P 0 lev ls ll)).set d (d8 T P 0 0 ls ll)).length ll;refine⟨Wy _,?_⟩;have M5:=M4.app [.list []];refine M5.s7 ?_;generalize e1:(H.set d (d8 T P 0 lev ls ll)).set d (d8 T P 0 0 ls ll)=Ha at*;have hl:Ha.length=H.length:=by rw[←e1];simp
 generalize e2:(Ha++[AO.list []]).set d (d8 T P 0 0 Ha.length ll)=Hb at*;have hlb:Hb.length=H.length+1:=by rw[←e2];simp[hl]
 have M6:=M5.upd 0 0 Ha.length Hb.length;have dl:d<H.length:=hZ M.d;show Q .none _;refine q _ Ha.length Hb.length ?_ ⟨M6,(i8 ([]) ?_ (by simp) rfl),(i8 ([]) ?_ (by simp) rfl),by exact PM hlb hl⟩ (PO hlb)
 ·have f1:Fr (fun i=>i=d) H Ha:=by rw[←e1];exact Fr.set.trans Fr.set
  have f2:Fr (fun i=>i=d) Ha Hb:=by rw[←e2];exact(Fr.snoc _ _).trans Fr.set
  exact(f1.trans f2).trans ((Fr.snoc _ _).trans Fr.set)
 ·rw[aV (by exact D0 dl hl)];refine aQ ?_;rw[←e2,aV (by exact D0 dl hl)];exact aB _ _
 ·rw[aV (by exact PP dl hlb)];exact aB _ _
def Qu(h:(y==x)=false):lk y (st x v l)=lk y l:=(aP ..).trans (if_neg (ne_of_beq_false h))
def iY:lk x (st x v l)=some v:=(aP ..).trans (if_pos rfl)
def aJ(h:(y==x)=false)(e:lk y l=r):lk y (st x v l)=r:=(Qu h).trans e
def cZ(h1:bk op a b=true->A)(h2:bk op a b=false->B):bQ op (.int a) (.int b) H (fun c=>aE (.bool c) (fun b=>if b=true then A else B)):=by
 exact kB (u3 h1 h2)
def jq{a b:Nat}(h1:a<b->A)(h2:b<=a->B):bQ .lt (.int a) (.int b) H (fun c=>aE (.bool c) (fun t=>if t=true then A else B)):=
 cZ (fun h=>h1 (by simp[bk]at h;exact uz h)) (fun h=>h2 (by simp[bk]at h;exact qZ h))
def nv{a b:Nat}(h1:a<=b->A)(h2:b<a->B):bQ .le (.int a) (.int b) H (fun c=>aE (.bool c) (fun t=>if t=true then A else B)):=
 cZ (fun h=>h1 (by simp[bk]at h;exact qZ h)) (fun h=>h2 (by simp[bk]at h;exact uz h))
def wg{a b:Nat}(h1:b<a->A)(h2:a<=b->B):bQ .gt (.int a) (.int b) H (fun c=>aE (.bool c) (fun t=>if t=true then A else B)):=
 cZ (fun h=>h1 (by simp[bk]at h;exact uz h)) (fun h=>h2 (by simp[bk]at h;exact qZ h))
def pT{a b:Nat}(h1:b<=a->A)(h2:a<b->B):bQ .ge (.int a) (.int b) H (fun c=>aE (.bool c) (fun t=>if t=true then A else B)):=
 cZ (fun h=>h1 (by simp[bk]at h;exact qZ h)) (fun h=>h2 (by simp[bk]at h;exact uz h))
def bG{a b:Nat}(h1:a=b->A)(h2:¬a=b->B):bQ .eq (.int a) (.int b) H (fun c=>aE (.bool c) (fun t=>if t=true then A else B)):=
 cZ (fun h=>h1 (by simp[bk]at h;exact PQ h)) (fun h=>h2 (by simp[bk]at h;exact PR h))
def IB{a b:Nat}(h1:¬a=b->A)(h2:a=b->B):bQ .ne (.int a) (.int b) H (fun c=>aE (.bool c) (fun t=>if t=true then A else B)):=
 cZ (fun h=>h1 (by simp[bk]at h;exact PR h)) (fun h=>h2 (by simp[bk]at h;exact PQ h))
def sO(h1:a=b->A)(h2:¬a=b->B):bQ .eq (.int a) (.int b) H (fun c=>aE (.bool c) (fun t=>if t=true then A else B)):=
 cZ (fun h=>h1 (by simpa [bk]using h)) (fun h=>h2 (by simpa [bk]using h))
def bj(h:Q (.int ((a+b:Nat):Int)) H):ju (.int a) (.int b) fun p q=>mj .add p q H Q:=⟨_,_,rfl,rfl,h⟩
def oY(h:Q (.int (a+b)) H):ju (.int a) (.int b) fun p q=>mj .add p q H Q:=⟨_,_,rfl,rfl,h⟩
def j_(h:Q (.int (a-b)) H):ju (.int a) (.int b) fun p q=>mj .sub p q H Q:=⟨_,_,rfl,rfl,h⟩
def aI(h:Q (.int ((a+b:Nat):Int)) H):nq .add (.int a) (.int b) H Q:=.ii _ _ rfl rfl h
def hO(h:Q (.int (a+b)) H):nq .add (.int a) (.int b) H Q:=.ii _ _ rfl rfl h
def cK(h:Q (.int (a-b)) H):nq .sub (.int a) (.int b) H Q:=.ii _ _ rfl rfl h
def RM{Q:Bool->Prop}(h:Q b):aE (.bool b) Q:=h
def bJ(h1:b=true->A)(h2:b=false->B):aE (.bool b) (fun b=>if b=true then A else B):=u3 h1 h2
def fN{m d x:Nat}{es:List (Nat×AV)}{u:AV}{Q:AH->Prop}(hi:H[m]?=some (.inst d))(hd:H[d]?=some (.dict es))(hz:es.length<100)(q:Q (H.set d (.dict (sd x u es)))):lT x (.ref m) u H Q:=⟨_,_,_,rfl,hi,hd,hz,q⟩
def FK(h:yw k hn args H Q E)(hk:k<=n+1):aj (Gm gl n) ct cl (k-1) hn sZ ([0,8,9,10,11].zip (args++[.int 60,.none])) H (rQ Q) (fun _=>E):=by
 obtain⟨m,d,T,P,rfl,hi,hd,hT,hP,h1,q⟩:=h;have md:m≠d:=fun e=>by rw[e,hd]at hi;cases hi
 have dl:d<H.length:=hZ hd;o_facts sZ;refine⟨⟨_,rfl⟩,_,_,rfl,rfl,by have:=hP.1;show _<=4096;exact dh this,fun x hx e=>?_,?_⟩
 ·exact(hP.2 x hx).2 (by rw[e];rfl)
 o_facts rP;refine fN hi hd (by decide) ?_;have g1:∀{o},(H.set d o)[m]?=some (AO.inst d):=fun{o}=>by rw[aV md];exact hi
 have g2:∀{o},(H.set d o)[d]?=some o:=fun{o}=>dy hd;o_facts rR;refine xO (by decide) ?_;refine fN g1 g2 (by simp[lS,de]) ?_;o_facts rS;simp only[YD];refine fN g1 g2 (by simp[lS,de]) ?_;o_facts rT;simp only[YD];refine fN g1 g2 (by simp[lS,de]) ?_;o_facts rU;simp only[YD];refine fN g1 g2 (by simp[lS,de]) ?_;o_facts rV;simp only[YD];refine fN g1 g2 (by simp[lS,de]) ?_;o_facts rW;simp only[YD];refine⟨Wy _,?_⟩;refine fN (aQ g1) (aQ g2) (by simp[lS,de]) ?_;o_facts rX;generalize e1:H.set d (.dict [(0,.bytes T),(1,.bytes P),(2,.int 60),(3,.none),(4,.int 0),(5,.int 0)])=Ha at*;have hl:Ha.length=H.length:=by rw[←e1];simp
 refine⟨Wy _,?_⟩;have k1:((Ha++[AO.list []]).set d (.dict [(0,.bytes T),(1,.bytes P),(2,.int 60),(3,.none),(4,.int 0),(5,.int 0),(6,.ref Ha.length)]))[m]?=some (AO.inst d):=by
  rw[aV md];refine aQ ?_;rw[←e1];exact g1
 have k2:((Ha++[AO.list []]).set d (.dict [(0,.bytes T),(1,.bytes P),(2,.int 60),(3,.none),(4,.int 0),(5,.int 0),(6,.ref Ha.length)]))[d]?=some (.dict [(0,.bytes T),(1,.bytes P),(2,.int 60),(3,.none),(4,.int 0),(5,.int 0),(6,.ref Ha.length)]):=by
  refine dy (o':=.dict [(0,.bytes T),(1,.bytes P),(2,.int 60),(3,.none),(4,.int 0),(5,.int 0)]) (aQ ?_);rw[←e1];exact g2
 generalize e2:(Ha++[AO.list []]).set d (.dict [(0,.bytes T),(1,.bytes P),(2,.int 60),(3,.none),(4,.int 0),(5,.int 0),(6,.ref Ha.length)])=Hb at*;have hlb:Hb.length=H.length+1:=by rw[←e2];simp[hl]
 refine fN (aQ k1) (aQ k2) (by simp[lS,de]) ?_;show Q .none _;refine q _ Ha.length Hb.length ?_ ⟨⟨by rw[aV md];exact aQ k1,dy (aQ k2),hT,hP.1⟩,(i8 ([]) ?_ (by simp) rfl),(i8 ([]) ?_ (by simp) rfl),by exact PM hlb hl⟩ (PO hlb)
 ·have f1:Fr (fun i=>i=d) H Ha:=by rw[←e1];exact Fr.set
  have f2:Fr (fun i=>i=d) Ha Hb:=by rw[←e2];exact(Fr.snoc _ _).trans Fr.set
  exact(f1.trans f2).trans ((Fr.snoc _ _).trans Fr.set)
 ·rw[aV (by exact D0 dl hl)];refine aQ ?_;rw[←e2,aV (by exact D0 dl hl)];exact aB _ _
 ·rw[aV (by exact PP dl hlb)];exact aB _ _
def Rn(a b:Nat):((a:Int)+(b:Int))=((a+b:Nat):Int):=by exact Ku
def uF(M:M0 H m d T P dep lev ls ll){p:Nat}(hk:k<=n)(h1:1<=k){i:Int}(e:i=p)(q:Q (.int (atP P p:Int)) H):cF (Gm gl n) k hn 162 [.ref m,.int i] H Q E:=by
 subst e;exact au hk ⟨m,d,p,T,P,dep,lev,ls,ll,rfl,M,h1,fun _=>q⟩
def xM{p f:Nat}{loc1:aM}{K:QS}(M:M0 H m d T P dep lev ls ll)(l0:lk 0 loc1=some (.ref m))(l1:lk 1 loc1=some (.int p))(hf:P.length+2<=f+p)
  (q:match jn P f p true with|none=>E H|some e=>Q (.int (e:Int)) H)
  (hK:∀(p' f':Nat)(loc2:aM),lk 0 loc2=some (.ref m)->lk 1 loc2=some (.int p')->lk 14 loc2=some (.bool false)->p<p'->p'<=P.length->P.length+2<=f'+p'->(match jn P f' p' false with|none=>E H|some e=>Q (.int (e:Int)) H)->K .next loc2 H)
  (h1:5<=k):aj (Gm gl n) ct cl (k-1) hn eP loc1 H K (fun _=>E):=by
 have hz:=M.p;o_facts eP;o_facts iL;rw[l0,l1];refine M.g1 (len_bytes (dh hz) ?_);refine cZ (fun hc=>?_) (fun hc=>?_)
 ·have hc:P.length<=p:=by simpa [bk]using hc
  have:jn P f p true=none:=by
   cases f with
   |zero=>rfl
   |succ f=>rw[lu];rw[if_pos (by simp),if_pos hc]
  rw[this]at q;exact⟨by exact pG h1,q⟩
 have hc:p<P.length:=by simpa [bk]using hc
 obtain⟨f',rfl⟩:∃f',f=f'+1:=⟨f-1,by exact Gb hf hc⟩;have q:match(if atP P p=37/\p+1<P.length then jn P f' (p+2) false else jn P f' (p+1) false)with|none=>E H|some e=>Q (.int (e:Int)) H:=by
  rw[lu]at q;rw[if_pos (by simp),if_neg (by exact Af hc)]at q;exact q
 o_facts iM;rw[l0,l1];refine M.g1 (a_ (dh hz) hc ?_);refine kB ?_;o_facts iN;rw[l1];refine oY ?_;o_facts iO;rw[l0];refine bJ (fun h37=>?_) (fun h37=>?_)
 ·refine M.g1 (len_bytes (dh hz) ?_);have h37:atP P p=37:=by simp[bk]at h37;exact Gc h37
  refine cZ (fun hl=>?_) (fun hl=>?_)
  ·have hl:p+1<P.length:=by simp[bk]at hl;exact Kv hl
   rw[if_pos ⟨by exact Kw h37,hl⟩]at q;refine oY (hK (p+2) f' _ (by simp[aP,l0]) (by simp only[aP];rfl) (by simp[aP]) Ky (Ag hl) (Kz hf) q)
  ·have hl:¬p+1<P.length:=by simp[bk]at hl;exact KA hl
   rw[if_neg (fun z=>hl z.2)]at q;exact hK (p+1) f' _ (by simp[aP,l0]) (by simp[aP]) (by simp[aP]) xw (bI hc) (di hf) q
 ·have h37:¬atP P p=37:=by simp[bk]at h37;exact Gd h37
  rw[if_neg (fun z=>h37 z.1)]at q;exact hK (p+1) f' _ (by simp[aP,l0]) (by simp[aP]) (by simp[aP]) xw (bI hc) (di hf) q
inductive FT(H:AH)(m:Nat)(P:List UInt8)(Q:QE)(E:AH->Prop)(n0:Nat)(loc1:aM)(H1:AH):Prop
 |mk (p' f:Nat)(first:Bool):H1=H->lk 0 loc1=some (.ref m)->lk 1 loc1=some (.int p')->lk 14 loc1=some (.bool first)->n0=P.length+3-p'->
  P.length+2<=f+p'->(match jn P f p' first with|none=>E H|some e=>Q (.int (e:Int)) H)->FT H m P Q E n0 loc1 H1
def xN{p:Nat}(M:M0 H m d T P dep lev ls ll)(l0:lk 0 loc=some (.ref m))(l1:lk 1 loc=some (.int p))(l14:lk 14 loc=some (.bool true))(q:match jn P (P.length+2) p true with|none=>E H|some e=>Q (.int (e:Int)) H)
  (h1:5<=k)(hk:k<=n+1):aj (Gm gl n) ct cl (k-1) hn eO loc H (rQ Q) (fun _=>E):=by
 o_facts eO;refine i2 (FT H m P Q E) _ ⟨p,P.length+2,true,rfl,l0,l1,l14,rfl,by exact Ge,q⟩ ?_;clear l0 l1 l14 q;rintro n0 loc1 H0 _ ⟨p,f,first,rfl,l0,l1,l14,rfl,hf,q⟩;rw[l0,l1,l14];refine bJ (fun h1=>?_) (fun h1=>?_)
 ·rw[h1]at q;exact xM M l0 l1 hf q (fun p' f' loc2 a b c e g h i=>(i0 _ (Gf e g) ⟨p',f',false,rfl,a,b,c,rfl,h,i⟩)) (by assumption)
 ·refine M.inst (uF M (by exact aZ hk) (by omega) rfl ?_);refine cZ (fun hc=>?_) (fun hc=>?_)
  ·refine xM M l0 l1 hf ?_ (fun p' f' loc2 a b c e g h i=>(i0 _ (Gf e g) ⟨p',f',false,rfl,a,b,c,rfl,h,i⟩)) (by assumption);have hc:atP P p≠93:=by simp[bk]at hc;exact KC hc
   induction f using V3 with
   |zero=>exact q
   |succ f=>
    rw[lu]at q⊢;rw[if_pos (by simp[hc])]at q;rw[if_pos (by simp)];exact q
  ·have hc:atP P p=93:=by simp[bk]at hc;exact KD hc
   have hp:p<P.length:=by
    rcases Xd p P.length with z|z
    ·exact z
    ·rw[nh z]at hc;injection hc
   obtain⟨f',rfl⟩:∃f',f=f'+1:=(i4 (f-1) (Gb hf hp));rw[lu]at q;rw[if_neg (by simp[h1,hc])]at q;o_facts iP;rw[l1];exact aI (b:=1) q
def vR(h:ko k hn args H Q E)(hk:k<=n+1):aj (Gm gl n) ct cl (k-1) hn h_ ([0,1].zip args) H (rQ Q) (fun _=>E):=by
 obtain⟨m,d,p,T,P,dep,lev,ls,ll,rfl,M,h1,q⟩:=h;have hz:=M.p;o_facts h_;refine M.inst (uF M (aZ hk) (Gg h1) rfl ?_);unfold bp at q;o_facts jv;refine cZ (fun hc=>?_) (fun hc=>?_)
 ·have hc:atP P p=37:=by simp[bk]at hc;exact Gc hc
  rw[if_pos hc]at q;o_facts jw;refine hO (M.g1 (len_bytes (dh hz) ?_));refine cZ (fun hl=>?_) (fun hl=>?_)
  ·have hl:P.length<=p+1:=by simp[bk]at hl;exact KG hl
   rw[if_pos hl]at q;exact⟨by exact pG h1,q⟩
  ·have hl:¬P.length<=p+1:=by simp[bk]at hl;exact KH hl
   rw[if_neg hl]at q;exact aI (b:=2) q
 have hc:¬atP P p=37:=by simp[bk]at hc;exact Gd hc
 rw[if_neg hc]at q;o_facts jx;refine cZ (fun hl=>?_) (fun hl=>?_)
 ·have hl:atP P p≠91:=by simp[bk]at hl;exact KI hl
  rw[if_pos hl]at q;exact aI (b:=1) q
 have hl:¬atP P p≠91:=by simp[bk]at hl;exact KJ hl
 rw[if_neg hl]at q;o_facts jy;refine oY ?_;o_facts jz;refine M.inst (uF M (p:=p+1) (aZ hk) (Gg h1) rfl ?_);refine cZ (fun h4=>?_) (fun h4=>?_)
 ·have h4:atP P (p+1)=94:=by simp[bk]at h4;exact KM h4
  rw[if_pos h4]at q;exact bj (b:=1) (xN M (p:=p+2) rfl rfl rfl q h1 hk)
 ·have h4:¬atP P (p+1)=94:=by simp[bk]at h4;exact KN h4
  rw[if_neg h4]at q;exact xN M (p:=p+1) rfl rfl rfl q h1 hk
inductive n_(H:AH)(m c last:Nat)(w:Bool)(P:List UInt8)(Q:QE)(n0:Nat)(loc1:aM)(H1:AH):Prop
 |mk (p' f:Nat):H1=H->lk 0 loc1=some (.ref m)->lk 1 loc1=some (.int p')->lk 3 loc1=some (.int c)->lk 16 loc1=some (.int last)->lk 17 loc1=some (.bool w)->n0=P.length+3-p'->
  P.length+2<=f+p'->Q (.bool (ip P c last w f p')) H->n_ H m c last w P Q n0 loc1 H1
def xZ{p c last:Nat}(M:M0 H m d T P dep lev ls ll)(hP:bP P)(hlast:last<=P.length)(l0:lk 0 loc=some (.ref m))(l1:lk 1 loc=some (.int p))(l3:lk 3 loc=some (.int c))(l16:lk 16 loc=some (.int last))(l17:lk 17 loc=some (.bool w))
  (hp:1<=p)(q:Q (.bool (ip P c last w (P.length+1) p)) H)(h1:4<=k)(hk:k<=n+1):aj (Gm gl n) ct cl (k-1) hn jB loc H (rQ Q) (fun _=>E):=by
 have hz:=M.p;o_facts jB;refine i2 (n_ H m c last w P Q) _ ⟨p,P.length+1,rfl,l0,l1,l3,l16,l17,rfl,by exact KO hp,q⟩ ?_;clear l0 l1 l3 l16 l17 q hp;rintro n0 loc1 H0 _ ⟨p,f,rfl,l0,l1,l3,l16,l17,rfl,hf,q⟩;rw[l1,l16];refine jq (fun hc=>?_) (fun hc=>?_)
 case refine_2=>
  o_facts c9;rw[l17];show Q (.bool !w) H0;induction f using V3 with
  |zero=>exact q
  |succ f=>rw[nJ]at q;rw[if_neg (by exact uk hc)]at q;exact q
 obtain⟨f',rfl⟩:∃f',f=f'+1:=(i4 (f-1) (KQ hf hc hlast));rw[nJ]at q;rw[if_pos hc]at q;have next:∀(j:Nat) (loc2:aM),lk 0 loc2=some (.ref m)->lk 1 loc2=some (.int ((p+(j+1):Nat):Int))->lk 3 loc2=some (.int c)->lk 16 loc2=some (.int last)->lk 17 loc2=some (.bool w)->Q (.bool (ip P c last w f' (p+(j+1)))) H0->
   ∃m_1,m_1<P.length+3-p/\n_ H0 m c last w P Q m_1 loc2 H0:=fun j loc2 a b c e g h=>⟨_,by exact KU hc hlast,p+(j+1),f',rfl,a,b,c,e,g,rfl,by exact KY hf,h⟩
 o_facts oB;rw[l0,l1];refine M.g1 (a_ (dh hz) (Im hc hlast) ?_);o_facts oE;refine bG (b:=37) (fun h37=>?_) (fun h37=>?_)
 ·rw[if_pos h37]at q;o_facts oF;rw[l1];refine bj (b:=1) ?_;o_facts oG;rw[l0,l3,l17];refine M.inst (uF M (p:=p+1) (aZ hk) (Ah h1) rfl ?_);refine au (aZ hk) ⟨c,atP P (p+1),rfl,hP.at _,by exact KZ h1,fun _=>?_⟩;refine bJ (fun hi=>?_) (fun hi=>?_)
  ·rw[if_pos hi]at q;exact q
  ·rw[if_neg (by rw[hi];decide)]at q;o_facts cu;exact bj (b:=1) (next 1 (st 1 (.int _) (st 1 (.int _) (st 18 (.int _) loc1))) (by simp[aP,l0]) (by simp only[aP];rfl) (by simp[aP,l3]) (by simp[aP,l16]) (by simp[aP,l17]) q)
 rw[if_neg h37]at q;rw[l0,l1,l3,l16,l17];have fall:(if atP P p=c then Q (.bool w) H0 else Q (.bool (ip P c last w f' (p+1))) H0)->bQ .eq (.int (atP P p)) (.int c) H0 (fun b=>aE (.bool b) (fun t=>if t=true then rQ Q (.ret (.bool w)) (st 18 (.int (atP P p)) loc1) H0 else
   aj (Gm gl n) ct cl (k-1) hn cu (st 18 (.int (atP P p)) loc1) H0 (fun fl loc2 H3=>match fl with
    |.next=>∃m_1,m_1<P.length+3-p/\n_ H0 m c last w P Q m_1 loc2 H3
    |.cont=>∃m_1,m_1<P.length+3-p/\n_ H0 m c last w P Q m_1 loc2 H3
    |.brk=>aj (Gm gl n) ct cl (k-1) hn c9 loc2 H3 (rQ Q) (fun _=>E)
    |.ret v=>rQ Q (.ret v) loc2 H3) (fun _=>E))):=by
  intro z;refine bG (fun he=>?_) (fun he=>?_)
  ·rw[if_pos he]at z;exact z
  ·rw[if_neg he]at z;o_facts cu;rw[l1];exact bj (b:=1) (next 0 (st 1 (.int _) (st 18 (.int _) loc1)) (by simp[aP,l0]) (by simp only[aP];rfl) (by simp[aP,l3]) (by simp[aP,l16]) (by simp[aP,l17]) z)
 refine M.inst (aI (b:=1) ?_);refine uF M (p:=p+1) (aZ hk) (Ah h1) rfl ?_;refine bG (b:=45) (fun h45=>?_) (fun h45=>?_)
 ·refine aI (b:=2) (jq (fun h2=>?_) (fun h2=>?_))
  ·rw[if_pos ⟨h45,h2⟩]at q;have tail:¬(atP P p<=c/\c<=atP P (p+2))->aj (Gm gl n) ct cl (k-1) hn ie (st 18 (.int (atP P p)) loc1) H0 (fun fl loc2 H3=>match fl with
     |.next=>aj (Gm gl n) ct cl (k-1) hn cu loc2 H3 (fun fl loc2 H3=>match fl with
      |.next=>∃m_1,m_1<P.length+3-p/\n_ H0 m c last w P Q m_1 loc2 H3
      |.cont=>∃m_1,m_1<P.length+3-p/\n_ H0 m c last w P Q m_1 loc2 H3
      |.brk=>aj (Gm gl n) ct cl (k-1) hn c9 loc2 H3 (rQ Q) (fun _=>E)
      |.ret v=>rQ Q (.ret v) loc2 H3) (fun _=>E)
     |.cont=>∃m_1,m_1<P.length+3-p/\n_ H0 m c last w P Q m_1 loc2 H3
     |.brk=>aj (Gm gl n) ct cl (k-1) hn c9 loc2 H3 (rQ Q) (fun _=>E)
     |.ret v=>rQ Q (.ret v) loc2 H3) (fun _=>E):=by
    intro hn;rw[if_neg hn]at q;o_facts ie;rw[l1];refine bj (b:=2) ?_;o_facts cu;exact bj (b:=1) (next 2 (st 1 (.int _) (st 1 (.int _) (st 18 (.int _) loc1))) (by simp[aP,l0]) (by simp only[aP];rfl) (by simp[aP,l3]) (by simp[aP,l16]) (by simp[aP,l17]) q)
   o_facts mE;rw[l0,l1,l3,l17];refine nv (fun ha=>?_) (fun ha=>?_)
   ·refine M.g1 (aI (b:=2) (a_ (p:=p+2) (dh hz) (K0 h2 hlast) ?_));refine nv (fun hb=>?_) (fun hb=>?_)
    ·rw[if_pos ⟨ha,hb⟩]at q;exact q
    ·exact tail fun z=>absurd hb (W8.mpr z.2)
   ·exact tail fun z=>absurd ha (W8.mpr z.1)
  ·rw[if_neg (fun z=>absurd h2 (by exact K2 z))]at q;refine fall ?_
   split at q<;>simp_all
 ·rw[if_neg (fun z=>h45 z.1)]at q;refine fall ?_
  split at q<;>simp_all
def Dy(h:tL k hn args H Q E)(hk:k<=n+1):aj (Gm gl n) ct cl (k-1) hn nF ([0,3,1,16].zip args) H (rQ Q) (fun _=>E):=by
 obtain⟨m,d,c,p,last,T,P,dep,lev,ls,ll,rfl,M,hP,hlast,h1,q⟩:=h;o_facts nF;o_facts oq;refine bj (b:=1) ?_;o_facts ou;refine M.inst (uF M (p:=p+1) (aZ hk) (Ah h1) rfl ?_);unfold sY at q;refine bG (b:=94) (fun h4=>?_) (fun h4=>?_)
 ·rw[if_pos h4]at q;o_facts oz;o_facts oA;exact bj (b:=1) (xZ M hP hlast (p:=p+2) rfl rfl rfl rfl rfl xy q h1 hk)
 ·rw[if_neg h4]at q;exact xZ M hP hlast (p:=p+1) rfl rfl rfl rfl rfl Gh q h1 hk
def da{H:AH}(hz:vs.length<=4096)(h:F vs):vs.length<=fO/\FF (.ref H.length) (H++[AO.tup vs]) F:=⟨hz,_,_,rfl,aB _ _,h⟩
def a9.app(H l:AH):a9 H (H++l):=Fr.snoc _ _
def z6(h:pq k hn args H Q E)(hk:k<=n+1):aj (Gm gl n) ct cl (k-1) hn ig ([0,2,1,4].zip args) H (rQ Q) (fun _=>E):=by
 obtain⟨m,d,s,p,e,T,P,dep,lev,ls,ll,rfl,M,hP,hp,h37,e1,e2,h1,q⟩:=h;have hz:=M.p;have hT:=M.t;o_facts ig;refine M.g0 (len_bytes (kF hT) ?_);refine pT (fun hc=>?_) (fun hc=>?_)
 ·have:=q H (Fr.refl _);unfold ar at this;rw[W_ hc]at this;exact this
 o_facts jF;refine M.g0 (a_ (kF hT) hc ?_);refine M.g1 (a_ (dh hz) hp ?_);refine da (by show 2<=4096;decide) ⟨rfl,by decide,?_⟩;have M1:=M.app [AO.tup [.int (atP T s),.int (atP P p)]];have q:=q _ (a9.app H [AO.tup [.int (atP T s),.int (atP P p)]]);clear M;generalize H++[AO.tup [.int (atP T s),.int (atP P p)]]=Hx at*;have ht:T[s]?=some T[s]:=Vw hc;have hts:atP T s=(T[s]).toNat:=by unfold atP;rw[ht]
 unfold ar at q;rw[ht]at q;dsimp only at q;rw[←hts]at q;o_facts jG;refine bG (b:=46) (fun h46=>?_) (fun h46=>?_)
 ·rw[if_pos h46]at q;exact q
 rw[if_neg h46]at q;o_facts jH;refine bG (b:=37) (fun hx=>?_) (fun hx=>?_)
 ·rw[if_pos hx]at q;refine M1.g1 (aI (b:=1) (a_ (p:=p+1) (dh hz) (h37 hx) ?_));exact au (aZ hk) ⟨atP T s,atP P (p+1),rfl,hP.at _,by exact K3 h1,fun _=>q⟩
 rw[if_neg hx]at q;o_facts jI;refine bG (b:=91) (fun hy=>?_) (fun hy=>?_)
 ·rw[if_pos hy]at q;refine M1.inst (cK ?_);have ee:((e:Int)-1)=((e-1:Nat):Int):=by exact Gi e1
  rw[ee];exact au (aZ hk) ⟨m,d,atP T s,p,e-1,T,P,dep,lev,ls,ll,rfl,M1,hP,by exact K4 e2,by exact pG h1,fun _=>q⟩
 rw[if_neg hy]at q;o_facts jJ;refine kB ?_;show Q (.bool (decide ((atP P p:Int)=(atP T s:Int)))) _
 simpa [show((atP P p:Int)=(atP T s:Int))↔atP P p=atP T s from by exact PL]using q
inductive vY(Hx:AH)(m b e:Nat)(T:List UInt8)(Q:QE)(n0:Nat)(loc1:aM)(H1:AH):Prop
 |mk (s' f o:Nat):H1=Hx->lk 0 loc1=some (.ref m)->lk 2 loc1=some (.int s')->lk 22 loc1=some (.int b)->lk 4 loc1=some (.int e)->lk 23 loc1=some (.int o)->1<=o->n0=T.length+3-s'->
  T.length+1<=f+s'->(match eJ T b e f s' o with|none=>Q .none Hx|some s'=>Q (.int s') Hx)->vY Hx m b e T Q n0 loc1 H1
def AJ{b e s o:Nat}(M1:M0 H m d T P dep lev ls ll)(l0:lk 0 loc=some (.ref m))(l2:lk 2 loc=some (.int s))(l22:lk 22 loc=some (.int b))(l4:lk 4 loc=some (.int e))(l23:lk 23 loc=some (.int o))
  (ho:1<=o)(q:match eJ T b e (T.length+1) s o with|none=>Q .none H|some s'=>Q (.int s') H)(h1:2<=k)(hk:k<=n+1):aj (Gm gl n) ct cl (k-1) hn cO loc H (rQ Q) (fun _=>E):=by
 have hT:=M1.t;o_facts cO;refine i2 (vY H m b e T Q) _ ⟨s,T.length+1,o,rfl,l0,l2,l22,l4,l23,ho,rfl,by exact Gj,q⟩ ?_;clear l0 l2 l22 l4 l23 q ho;rintro n0 loc1 H0 _ ⟨s,f,o,rfl,l0,l2,l22,l4,l23,ho,rfl,hf,q⟩;rw[l0,l2];refine M1.g0 (len_bytes (kF hT) ?_);refine jq (fun hl=>?_) (fun hl=>?_)
 case refine_2=>
  o_facts cC;have:eJ T b e f s o=none:=by
   induction f using V3 with
   |zero=>rfl
   |succ f=>rw[hJ];rw[if_pos hl]
  rw[this]at q;exact q
 obtain⟨f',rfl⟩:∃f',f=f'+1:=(i4 (f-1) (K5 hf hl));rw[hJ]at q;rw[if_neg (by exact Af hl)]at q;o_facts eX;rw[l0];refine M1.inst (au (aZ hk) ⟨m,d,T,P,dep,lev,ls,ll,rfl,M1,by exact Io h1,fun _=>?_⟩);o_facts eY;rw[l0,l2];refine M1.g0 (a_ (kF hT) hl ?_);have next:∀(o':Nat) (loc2:aM),lk 0 loc2=some (.ref m)->lk 2 loc2=some (.int s)->lk 22 loc2=some (.int b)->lk 4 loc2=some (.int e)->lk 23 loc2=some (.int o')->1<=o'->(match eJ T b e f' (s+1) o' with|none=>Q .none H0|some s'=>Q (.int s') H0)->
   aj (Gm gl n) ct cl (k-1) hn cB loc2 H0 (mQ (vY H0 m b e T Q) (T.length+3-s) (fun fl loc H=>tY (fun l h=>aj (Gm gl n) ct cl (k-1) hn cC l h (rQ Q) fun _=>E) (rQ Q) fl loc H)) (fun _=>E):=fun o' loc2 a1 a2 a3 a4 a5 ho' z=>by
  o_facts cB;simp only[aP,a2];exact bj (b:=1) ⟨T.length+3-(s+1),by exact Gk hl,s+1,f',o',rfl,aJ rfl a1,rfl,aJ rfl a3,aJ rfl a4,aJ rfl a5,ho',rfl,by exact kH hf,z⟩
 o_facts eZ;rw[l22,l4];refine bG (fun h4=>?_) (fun h4=>?_)
 ·rw[if_pos h4]at q;o_facts e9;rw[l23];refine j_ ?_;o_facts ey;have ee:((o:Int)-1)=((o-1:Nat):Int):=by exact Gi ho
  rw[ee];refine bG (b:=0) (fun h0=>?_) (fun h0=>?_)
  ·rw[if_pos (by exact K6 ee h0)]at q;rw[l2];exact aI (b:=1) q
  ·rw[if_neg (by exact K7 h0)]at q;exact next (o-1) _ l0 l2 l22 l4 rfl (K8 h0) q
 rw[if_neg h4]at q;refine bG (fun hb=>?_) (fun hb=>?_)
 ·rw[if_pos hb]at q;rw[l23];exact bj (b:=1) (next (o+1) _ l0 l2 l22 l4 rfl Gh q)
 ·rw[if_neg hb]at q;exact next o _ l0 l2 l22 l4 l23 ho q
def J8(h:Fj k hn args H Q E)(hk:k<=n+1):aj (Gm gl n) ct cl (k-1) hn dD ([0,2,1].zip args) H (rQ Q) (fun _=>E):=by
 obtain⟨m,d,s,p,T,P,dep,lev,ls,ll,rfl,M,h1,q⟩:=h;have hz:=M.p;have hT:=M.t;o_facts dD;refine aI (b:=1) ?_;refine M.g1 (len_bytes (dh hz) ?_);refine pT (fun hc=>?_) (fun hc=>?_)
 ·rw[if_pos hc]at q;exact⟨by exact pG h1,q⟩
 rw[if_neg (by exact K9 hc)]at q;o_facts eT;refine M.g1 (a_ (dh hz) (K_ hc) ?_);refine M.g1 (aI (b:=1) (a_ (p:=p+1) (dh hz) (K' hc) ?_));refine da (by show 2<=4096;decide) ⟨rfl,by decide,?_⟩;have M1:=M.app [AO.tup [.int (atP P p),.int (atP P (p+1))]];have q:=q _ (a9.app H [AO.tup [.int (atP P p),.int (atP P (p+1))]]);generalize H++[AO.tup [.int (atP P p),.int (atP P (p+1))]]=Hx at*;clear M;generalize hb:atP P p=b at*;generalize he:atP P (p+1)=e at*;unfold lj at q;o_facts eU;refine M1.g0 (len_bytes (kF hT) ?_);refine pT (fun hs=>?_) (fun hs=>?_)
 ·rw[if_pos (.inl hs)]at q;exact q
 refine M1.g0 (a_ (kF hT) hs ?_);refine IB (fun hy=>?_) (fun hy=>?_)
 ·rw[if_pos (.inr hy)]at q;exact q
 rw[if_neg (by exact La hs hy)]at q;o_facts eV;o_facts eW;exact bj (b:=1) (AJ M1 rfl rfl rfl rfl rfl (VB 1) q (Lb h1) hk)
def xk(h:mW k hn args H Q E)(hk:k<=n+1):aj (Gm gl n) ct cl (k-1) hn dJ ([0,2,1,5].zip args) H (rQ Q) (fun _=>E):=by
 obtain⟨m,d,s,p,T,P,dep,lev,ls,ll,rfl,M,h1,q⟩:=h;o_facts dJ;refine xO (by decide) ?_;refine M.inst (hO ?_);refine au (aZ hk) ⟨m,d,s,p+2,T,P,dep,lev,ls,ll,rfl,M,by exact Gl h1,?_⟩;by_cases hc:P.length<=p+3
 ·rw[if_pos hc]at q;rw[if_pos (by exact Lc hc)];exact fun _=>q
 ·rw[if_neg hc]at q;rw[if_neg (by exact Ld hc)];intro H' x;have q:=q (H'++[.tup [match lj T s (atP P (p+2)) (atP P (p+2+1))with|none=>.none|some s'=>.int (s':Int),.int ((p+4:Nat):Int)]]) H'.length (x.trans (a9.app _ _)) (aB _ _);induction hb:lj T s (atP P (p+2)) (atP P (p+2+1))using Option.casesOn with
  |none=>
   rw[hb]at q;exact fun _=>aI (b:=4) ⟨by show 2<=4096;decide,q⟩
  |some s'=>
   rw[hb]at q;exact fun _=>aI (b:=4) ⟨by show 2<=4096;decide,q⟩
end
section
variable{H H1 H2:AH}{S:Nat->Prop}{m d ls ll:Nat}{T P:List UInt8}{dep lev:Int}{gl:GL}{n k:Nat}{hn:Bool}{ct:CT}{cl:List Nat}{args:List AV}{Q:QE}{E:AH->Prop}
variable{cs:List cq}{dp:Nat}
def vP{α β:Type}{f:α->β}{xs:List β}{cs:List α}(h:xs.take cs.length=cs.map f){i:Nat}(hi:i<cs.length):xs[i]?=some (f cs[i]):=by
 have:=congrArg (fun l=>l[i]?) h
 simpa [YJ,hi]using this
def m9{α β:Type}{f:α->β}{xs:List β}{cs:List α}(h:xs.take cs.length=cs.map f):cs.length<=xs.length:=by
 have:=congrArg List.length h;simp at this;omega
def qf{xs:List Int}{i:Nat}(hl:H[l]?=some (.list (xs.map AV.int)))(hz:xs.length<=4096)(hi:xs[i]?=some v)(q:Q (.int v) H):qd gl (.ref l) (.int i) H Q:=by
 exact .sq _ _ (.int v) rfl (.li _ rfl hl) (Ws _) (by rw[VI];exact hz) (by rw[WH,Ww,hi];rfl) q
def MS.il(M:MS H m d T P dp ls ll cs)(hi:i<cs.length)(q:Q (.int (cs.getD i (0,0)).2) H):qd gl (.ref ll) (.int i) H Q:=by
 refine eD M.l fun ys h1 h2 h3=>?_;refine qf h1 (xA h2) (vP h3 hi) ?_;rw[VG,Vw hi]at q;exact q
def MS.is(M:MS H m d T P dp ls ll cs)(hi:i<cs.length)(q:Q (.int (((cs.getD i (0,0)).1:Nat):Int)) H):qd gl (.ref ls) (.int i) H Q:=by
 refine eD M.s fun ys h1 h2 h3=>?_;refine qf h1 (xA h2) (vP h3 hi) ?_;rw[VG,Vw hi]at q;exact q
def MS.ext(M:MS H m d T P dp ls ll cs)(e:a9 H H1):MS H1 m d T P dp ls ll cs:=by
 refine⟨M.m.ext e,?_,?_,M.ne⟩
 ·refine o1 M.s fun x a b=>?_;exact i0 x (e.keep _ _ a (fun z=>z)) b
 ·refine o1 M.l fun x a b=>?_;exact i0 x (e.keep _ _ a (fun z=>z)) b
def MS.len(M:MS H m d T P dp ls ll cs):cs.length<=40:=by
 refine eD M.l fun ys h1 h2 h3=>?_;have:=m9 h3;exact Le h2 this
inductive FZ(H:AH)(m:Nat)(cs:List cq)(Q:QE)(E:AH->Prop)(n0:Nat)(loc1:aM)(H1:AH):Prop
 |mk:H1=H->n0<=cs.length->lk 0 loc1=some (.ref m)->lk 27 loc1=some (.int ((n0:Int)-1))->(match kC cs n0 with|none=>E H|some n=>Q (.int (n:Int)) H)->FZ H m cs Q E n0 loc1 H1
def xl(h:mX k hn args H Q E)(hk:k<=n+1):aj (Gm gl n) ct cl (k-1) hn jL ([0].zip args) H (rQ Q) (fun _=>E):=by
 obtain⟨m,d,T,P,dep,ls,ll,cs,rfl,M,h1,q⟩:=h;o_facts jL;refine M.m.g5 (cK ?_);o_facts kO;refine i2 (FZ H m cs Q E) _ ⟨rfl,VB _,rfl,rfl,q⟩ ?_;rintro n0 loc1 H0 _ ⟨rfl,hj,l0,l27,q⟩;rw[l27];refine cZ (fun hc=>?_) (fun hc=>?_)
 ·obtain⟨j',rfl⟩:∃j',n0=j'+1:=(i4 (n0-1) (by simp[bk]at hc;exact Gn hc));rw[nP]at q;have e:(((j'+1:Nat):Int)-1)=(j':Int):=by exact xB
  rw[e]at l27;o_facts kP;rw[l0,l27];refine M.m.g7 (M.il hj ?_);refine sO (fun h1=>?_) (fun h1=>?_)
  ·rw[if_pos h1]at q;exact q
  ·rw[if_neg h1]at q;o_facts kQ;rw[l27];exact j_ ⟨j',Yk _,rfl,WR hj,aJ rfl l0,rfl,q⟩
 ·have:n0=0:=by simp[bk]at hc;exact Gp hc
  subst this;o_facts kR;exact⟨by exact pG h1,q⟩
def ti{x:Nat}:JU (.int x)=some x:=if_pos (e:=none) (Ws x)
def sX{n y:Nat}:JA n (.int y)=some (min y n):=if_pos (e:=none) (Ws y)
def gY(hz:b.length<=4096)(q:Q (.bytes (cut b (min x b.length) (min y b.length))) H):qR gl (.bytes b) (.int x) (.int y) H Q:=by
 exact .by x _ b ti rfl hz sX q
def xj(h:mV k hn args H Q E)(hk:k<=n+1):aj (Gm gl n) ct cl (k-1) hn lC ([0,27,2,4].zip args) H (rQ Q) (fun _=>E):=by
 obtain⟨m,d,nn,s,e,T,P,dep,ls,ll,cs,rfl,M,hcs,h1,q⟩:=h;have hT:=M.m.t;o_facts lC;refine M.m.g5 ?_;unfold lq at q;refine pT (fun hc=>?_) (fun hc=>?_)
 ·rw[if_pos hc]at q;o_facts my;refine wg (b:=0) (fun h0=>?_) (fun h0=>?_)
  ·rw[if_pos h0]at q;exact⟨by exact pG h1,q H (Fr.refl _)⟩
  ·rw[if_neg (W8.mpr h0)]at q;o_facts mz;exact M.m.g0 (gY (kF hT) (q H (Fr.refl _)))
 rw[if_neg (by exact Af hc)]at q;o_facts mB;refine M.m.g7 (M.il hc (M.m.g6 (M.is hc ?_)));refine da (by show 2<=4096;decide) ⟨rfl,by decide,?_⟩;have hget:cs[nn]?=some cs[nn]:=Vw hc;have hgd:cs.getD nn (0,0)=cs[nn]:=by rw[VG,hget];rfl
 rw[hget]at q;have hlo:=hcs cs[nn] (Z7 hc);rw[hgd];generalize cs[nn]=c at*;obtain⟨st0,len⟩:=c;have M1:=M.ext (a9.app H [AO.tup [.int len,.int (st0:Int)]]);have x1:=a9.app H [AO.tup [.int len,.int (st0:Int)]];dsimp only at q⊢hlo;generalize H++[AO.tup [.int len,.int (st0:Int)]]=Hx at*;o_facts mC;refine sO (fun h2=>?_) (fun h2=>?_)
 ·rw[if_pos h2]at q;exact⟨by exact pG h1,q _ x1⟩
 rw[if_neg h2]at q;o_facts mD;refine sO (fun h3=>?_) (fun h3=>?_)
 ·rw[if_pos h3]at q;exact hO (q _ x1)
 rw[if_neg h3]at q;refine M1.m.g0 (hO ?_);have:((st0:Int)+len)=((st0+len.toNat:Nat):Int):=by rw[Int.natCast_add,Int.toNat_of_nonneg (PH hlo h2 h3)]
 rw[this];exact gY (kF hT) (q _ x1)
end
section
variable{H H0 H1 H2:AH}{S:Nat->Prop}{m d ls ll ll0:Nat}{T P:List UInt8}{dep lev:Int}{gl:GL}{n k:Nat}{hn:Bool}{ct:CT}{cl:List Nat}{args:List AV}{Q:QE}{E:AH->Prop}
variable{cs:List cq}{dp:Nat}
abbrev nc(d ll:Nat)(H H':AH):Prop:=Fr (fun i=>i=d\/i=ll) H H'
def nc.two(a:nc d ll0 H0 H)(hl:ll=ll0\/H0.length<=ll)(b:nc d ll H H1):nc d ll0 H0 H1:=
 ⟨V4 a.len b.len,fun i o e nn=>b.keep i o (a.keep i o e nn) (fun z=>by
  rcases z with z|z
  ·exact nn (.inl z)
  ·rcases hl with hl|hl
   ·exact nn (.inr (z.trans hl))
   ·have:=hZ e;exact Ai this z hl)⟩
def dM(h:H0.length<=H.length)(a:ll=ll0\/H0.length<=ll)(b:l=ll\/H.length<=l):l=ll0\/H0.length<=l:=by
 rcases b with rfl|b
 ·exact a
 ·right;exact Gq h b
def iD{r:jh}(h1:r=.err->∀H',nc d ll H H'->E H')
  (h2:r=.fail->∀H' ls' ll',nc d ll H H'->MS H' m d T P dp ls' ll' cs->(ll'=ll\/H.length<=ll')->Q .none H')
  (h3:∀e cs',r=.ok e cs'->∀H' ls' ll',nc d ll H H'->MS H' m d T P dp ls' ll' cs'->(ll'=ll\/H.length<=ll')->Q (.int (e:Int)) H'):dU H m d T P dp ll cs r Q E:=by
 induction r using jh.casesOn with
 |err=>exact h1 rfl
 |fail=>exact h2 rfl
 |ok e cs'=>exact h3 e cs' rfl
def dU.back(h:dU H0 m d T P dp ll0 cs r Q E)(a:nc d ll0 H0 H)(hl:ll=ll0\/H0.length<=ll):dU H m d T P dp ll cs r Q E:=by
 induction r using jh.casesOn with
 |err=>exact fun H' b=>h H' (a.two hl b)
 |fail=>exact fun H' ls' ll' b M z=>h H' ls' ll' (a.two hl b) M (dM a.len hl z)
 |ok e cs'=>exact fun H' ls' ll' b M z=>h H' ls' ll' (a.two hl b) M (dM a.len hl z)
def dU.stab(h:dU H m d T P dp ll cs r Q E):dU H m d T P dp ll cs r (fun v H1=>bB H0 H1->Q v H1) (fun H1=>bB H0 H1->E H1):=by
 induction r using jh.casesOn with
 |err=>exact fun H' b _=>h H' b
 |fail=>exact fun H' ls' ll' b M z _=>h H' ls' ll' b M z
 |ok e cs'=>exact fun H' ls' ll' b M z _=>h H' ls' ll' b M z
def MS.lsd(M:MS H m d T P dp ls ll cs):ls≠d:=fun e=>by
 refine o1 M.s fun x a _=>?_;rw[e,M.m.d]at a;cases a
def MS.lld(M:MS H m d T P dp ls ll cs):ll≠d:=fun e=>by
 refine o1 M.l fun x a _=>?_;rw[e,M.m.d]at a;cases a
def MS.llm(M:MS H m d T P dp ls ll cs):ll≠m:=fun e=>by
 refine o1 M.l fun x a _=>?_;rw[e,M.m.i]at a;cases a
def MS.wdep(M:MS H m d T P dp ls ll cs)(dp':Nat):MS (H.set d (d8 T P (dp':Int) cs.length ls ll)) m d T P dp' ls ll cs:=by
 refine⟨M.m.upd _ _ _ _,?_,?_,M.ne⟩
 ·refine o1 M.s fun x a b=>?_;exact i0 x (by rw[aV M.lsd];exact a) b
 ·refine o1 M.l fun x a b=>?_;exact i0 x (by rw[aV M.lld];exact a) b
def nc.setd:nc d ll H (H.set d o):=Fr.set.mono fun _=>.inl
def sI(M:M0 H m d T P dep lev ls ll)(hk:k<=n)(h1:1<=k)(q:Q .none H):cF (Gm gl n) k hn 148 [.ref m] H Q E:=
 au hk ⟨m,d,T,P,dep,lev,ls,ll,rfl,M,h1,fun _=>q⟩
def DF(h:tQ k hn args H Q E)(hk:k<=n+1):aj (Gm gl n) ct cl (k-1) hn qo ([0,2,1].zip args) H (rQ Q) (fun _=>E):=by
 obtain⟨m,d,s,p,T,P,dp,ls,ll,cs,f,rfl,M,hP,hp,hf,hd,h1,q⟩:=h;o_facts qo;refine M.m.inst (sI M.m (aZ hk) (Lf h1) ?_);o_facts qp;refine M.m.g4 (bj (b:=1) (M.m.s4 ?_));have M1:=M.wdep (dp+1);have F1:nc d ll H (H.set d (d8 T P (((dp+1:Nat)):Int) cs.length ls ll)):=nc.setd;generalize H.set d (d8 T P (((dp+1:Nat)):Int) cs.length ls ll)=Hx at*;o_facts qq;refine M1.m.g4 (M1.m.g2 ?_);refine BC (by simp[bk];exact Lg hd) ?_;o_facts qr;refine M1.m.inst ?_;have q1:=q.back F1 (.inl rfl);refine au (aZ hk) ⟨m,d,s,p,T,P,dp+1,ls,ll,cs,f,rfl,M1,hP,hp,hf,by exact Lh hd,by exact Li h1,?_⟩;clear q;have e2:((dp+1:Nat):Int)-1=(dp:Int):=by exact xB
 refine iD (fun hr=>?_) (fun hr=>?_) (fun e cs' hr=>?_)
 ·rw[hr]at q1;exact fun H' b _=>q1 H' b
 ·rw[hr]at q1;intro H' ls' ll' b M2 z _;o_facts lD;refine M2.m.g4 (j_ (M2.m.s4 ?_));rw[e2];exact q1 _ ls' ll' (b.two (.inl rfl) nc.setd) (M2.wdep dp) z
 ·rw[hr]at q1;intro H' ls' ll' b M2 z _;o_facts lD;refine M2.m.g4 (j_ (M2.m.s4 ?_));rw[e2];exact q1 _ ls' ll' (b.two (.inl rfl) nc.setd) (M2.wdep dp) z
inductive FW(H:AH)(m d p e ll:Nat)(T P:List UInt8)(dp f:Nat)(cs:List cq)(Q:QE)(E:AH->Prop)(n0:Nat)(loc1:aM)(H1:AH):Prop
 |mk (s' f' ls' ll':Nat):nc d ll H H1->MS H1 m d T P dp ls' ll' cs->(ll'=ll\/H.length<=ll')->lk 0 loc1=some (.ref m)->lk 2 loc1=some (.int s')->lk 1 loc1=some (.int p)->lk 4 loc1=some (.int e)->n0=T.length+3-s'->
  1<=f'->T.length+2<=f'+s'->dU H m d T P dp ll cs (cw (fun s=>aG T P f s (e+1) cs) (fun s=>ar T P s p e) f' s') Q E->FW H m d p e ll T P dp f cs Q E n0 loc1 H1
def Dz(h:tO k hn args H Q E)(hk:k<=n+1):aj (Gm gl n) ct cl (k-1) hn eg ([0,2,1,4].zip args) H (rQ Q) (fun _=>E):=by
 obtain⟨m,d,s,p,e,T,P,dp,ls,ll,cs,f,rfl,M,hP,hp,h37,he1,he2,hf,hd,h1,q⟩:=h;o_facts eg;refine i2 (FW H m d p e ll T P dp f cs Q E) _ ⟨s,T.length+2,ls,ll,Fr.refl _,M,.inl rfl,rfl,rfl,rfl,rfl,rfl,by exact xy,by exact Ge,q⟩ ?_;clear q M;rintro n0 loc1 Hx _ ⟨s,f',ls',ll',FX,M,hll,l0,l2,l1,l4,rfl,hf1,hf',q⟩;refine RM ?_;show aj _ _ _ _ _ c6 _ _ _ _;o_facts c6;rw[l0,l2,l4];refine M.m.inst (aI (b:=1) ?_);obtain⟨f',rfl⟩:∃f2,f'=f2+1:=(i4 (f'-1) (Lj hf1))
 refine au (aZ hk) ⟨m,d,s,e+1,T,P,dp,ls',ll',cs,f,rfl,M,hP,by exact bI he2,by exact xC hf,by exact l_ hd,by exact xD h1,?_⟩;rw[eH]at q;refine iD (fun hr=>?_) (fun hr=>?_) (fun e cs' hr=>?_)
 ·rw[hr]at q;exact fun H' b _=>q H' (FX.two hll b)
 ·rw[hr]at q;dsimp only at q;intro H' ls'' ll'' b M2 z _;have F2:=FX.two hll b;have z2:=dM FX.len hll z;o_facts c7;o_facts fL;rw[l0,l2,l1,l4];refine M2.m.inst ?_;refine au (aZ hk) ⟨m,d,s,p,e,T,P,dp,cs.length,ls'',ll'',rfl,M2.m,hP,hp,h37,he1,by exact Aj he2,by exact Ak h1,fun H3 x _=>?_⟩;refine RM ?_;have M3:=M2.ext x;have F3:nc d ll H H3:=F2.two z2 (Fr.of x);induction hs:ar T P s p e using Vu with
  |false=>
   rw[hs]at q;exact q _ _ _ F3 M3 z2
  |true=>
   rw[hs]at q;have hlt:s<T.length:=by
    rcases Xd s T.length with z|z
    ·exact z
    ·unfold ar at hs;rw[W_ z]at hs;injection hs
   show aj _ _ _ _ _ c8 _ _ _ _;o_facts c8;rw[l2];exact bj (b:=1) ⟨T.length+3-(s+1),by exact Gk hlt,s+1,f',ls'',ll'',F3,M3,z2,aJ rfl l0,rfl,aJ rfl l1,aJ rfl l4,rfl,by exact Lk hf' hlt,by exact di hf',q⟩
 ·rw[hr]at q;intro H' ls'' ll'' b M2 z _;o_facts c7;exact q _ _ _ (FX.two hll b) M2 (dM FX.len hll z)
noncomputable def CJ(g:Nat->jh):Nat->jh
 |0=>.fail
 |j+1=>b9 g j
def E5(g:Nat->jh)(j:Nat):CJ g (j+1)=match g j with|.fail=>CJ g j|r=>r:=by
 induction j using V3 with
 |zero=>
  show g 0=_;induction g 0 using jh.casesOn<;>rfl
 |succ j=>rfl
def gW(hs:ar T P s p e=true):s<T.length:=by
 rcases Xd s T.length with z|z
 ·exact z
 ·unfold ar at hs;rw[W_ z]at hs;injection hs
inductive F8(H:AH)(m d p e s ll:Nat)(T P:List UInt8)(dp f:Nat)(cs:List cq)(Q:QE)(E:AH->Prop)(n0:Nat)(loc1:aM)(H1:AH):Prop
 |mk (i f':Nat):a9 H H1->lk 0 loc1=some (.ref m)->lk 2 loc1=some (.int s)->lk 1 loc1=some (.int p)->lk 4 loc1=some (.int e)->lk 25 loc1=some (.int i)->n0=T.length+1-i->
  T.length+1<=f'+i->dU H m d T P dp ll cs (b9 (fun i=>aG T P f (s+i) (e+1) cs) (cR (fun i=>ar T P (s+i) p e) f' i)) Q E->F8 H m d p e s ll T P dp f cs Q E n0 loc1 H1
inductive F9(H:AH)(m d p e s ll:Nat)(T P:List UInt8)(dp f:Nat)(cs:List cq)(Q:QE)(E:AH->Prop)(j:Nat)(loc1:aM)(H1:AH):Prop
 |mk (ls' ll':Nat):nc d ll H H1->MS H1 m d T P dp ls' ll' cs->(ll'=ll\/H.length<=ll')->lk 0 loc1=some (.ref m)->lk 2 loc1=some (.int s)->lk 4 loc1=some (.int e)->lk 25 loc1=some (.int ((j:Int)-1))->
  dU H m d T P dp ll cs (CJ (fun i=>aG T P f (s+i) (e+1) cs) j) Q E->F9 H m d p e s ll T P dp f cs Q E j loc1 H1
def FN(h:yB k hn args H Q E)(hk:k<=n+1):aj (Gm gl n) ct cl (k-1) hn eR ([0,2,1,4].zip args) H (rQ Q) (fun _=>E):=by
 obtain⟨m,d,s,p,e,T,P,dp,ls,ll,cs,f,rfl,M,hP,hp,h37,he1,he2,hf,hd,h1,q⟩:=h;o_facts eR;o_facts gg;refine i2 (F8 H m d p e s ll T P dp f cs Q E) _ ⟨0,T.length+1,Fr.refl _,rfl,rfl,rfl,rfl,rfl,rfl,by exact Gr,q⟩ ?_;clear q;rintro n0 loc1 Hx _ ⟨i,f',FX,l0,l2,l1,l4,l25,rfl,hf',q⟩;rw[l0,l2,l1,l4,l25];have MX:=M.ext FX;refine MX.m.inst (aI ?_);refine au (aZ hk) ⟨m,d,s+i,p,e,T,P,dp,cs.length,ls,ll,rfl,MX.m,hP,hp,h37,he1,by exact Aj he2,by exact Ak h1,fun H3 x _=>?_⟩;have M3:=MX.ext x;have F3:=FX.trans x;clear MX FX M;refine bJ (fun hs=>?_) (fun hs=>?_)
 ·have hlt:=gW hs;o_facts gh;rw[l0];refine M3.m.inst (sI M3.m (aZ hk) (Ll h1) ?_);obtain⟨f',rfl⟩:∃f2,f'=f2+1:=(i4 (f'-1) (Lm hf' hlt))
  rw[fi]at q;rw[if_pos hs]at q;o_facts gj;rw[l25];exact bj (b:=1) ⟨T.length+1-(i+1),by exact Lo hlt,i+1,f',F3,aJ rfl l0,aJ rfl l2,aJ rfl l1,aJ rfl l4,rfl,rfl,by exact kH hf',q⟩
 have hi:cR (fun i=>ar T P (s+i) p e) f' i=i:=by
  induction f' using V3 with
  |zero=>rfl
  |succ f'=>rw[fi];rw[if_neg (by rw[hs];decide)]
 rw[hi]at q;o_facts gk;refine i2 (F9 H m d p e s ll T P dp f cs Q E) (i+1) ⟨ls,ll,Fr.of F3,M3,.inl rfl,l0,l2,l4,by rw[l25];congr 2;exact Lp,q⟩ ?_;clear hi q l0 l2 l1 l4 l25 hf' hs M3 F3;rintro j loc1 Hy _ ⟨ls',ll',FY,MY,hll,l0,l2,l4,l25,q⟩;rw[l25];refine cZ (fun hc=>?_) (fun hc=>?_)
 ·obtain⟨j,rfl⟩:∃j',j=j'+1:=(i4 (j-1) (by simp[bk]at hc;exact Gn hc));have ej:(((j+1:Nat):Int)-1)=(j:Int):=by exact xB
  rw[ej]at l25;clear hc;rw[E5]at q;o_facts gm;rw[l0,l2,l4,l25];refine MY.m.inst (aI (aI (b:=1) ?_));refine au (aZ hk) ⟨m,d,s+j,e+1,T,P,dp,ls',ll',cs,f,rfl,MY,hP,by exact bI he2,by exact xC hf,by exact l_ hd,by exact xD h1,?_⟩;refine iD (fun hr=>?_) (fun hr=>?_) (fun e cs' hr=>?_)
  ·rw[hr]at q;exact fun H' b _=>q H' (FY.two hll b)
  ·rw[hr]at q;dsimp only at q;intro H' ls'' ll'' b M2 z _;o_facts dA;refine bJ (fun h=>V2 h) (fun _=>?_);o_facts gn;rw[l25];exact j_ ⟨j,Yk _,ls'',ll'',FY.two hll b,M2,dM FY.len hll z,aJ rfl l0,aJ rfl l2,aJ rfl l4,rfl,q⟩
  ·rw[hr]at q;intro H' ls'' ll'' b M2 z _;o_facts dA;exact q _ _ _ (FY.two hll b) M2 (dM FY.len hll z)
 ·have:j=0:=by simp[bk]at hc;exact Gp hc
  subst this;o_facts gq;exact q _ _ _ FY MY hll
def xu{xs:List Int}(hl:H[l]?=some (.list (xs.map AV.int)))(hz:xs.length<=40)(hc:c<=xs.length)
  (q:Q (.ref (H.length+2)) (H++[.list ((xs.take c).map AV.int),.list [.int v],.list ((xs.take c++[v]).map AV.int)])):
  qR gl (.ref l) .none (.int (c:Int)) H (fun a H1=>[AV.int v].length<=fO/\nq .add a (.ref H1.length) (H1++[.list [.int v]]) Q):=by
 refine .li 0 _ l _ rfl rfl hl (by rw[VI];show _<=4096;exact xA hz) sX ⟨by show 1<=4096;decide,?_⟩;have e:cut (xs.map AV.int) (min 0 (xs.map AV.int).length) (min c (xs.map AV.int).length)=(xs.take c).map AV.int:=by
  unfold cut;simp[List.map_take,WJ hc]
 rw[e];have g1:((H++[.list ((xs.take c).map AV.int)])++[.list [.int v]])[H.length]?=some (.list ((xs.take c).map AV.int)):=aQ (aB _ _);have g2:((H++[.list ((xs.take c).map AV.int)])++[.list [.int v]])[(H++[AO.list ((xs.take c).map AV.int)]).length]?=some (.list [.int v]):=aB _ _;refine .rr _ _ rfl rfl rfl (yL.mk _ _ g1 g2 (by simp;show _<=4096;omega) ?_)
 simpa using q
inductive xq(H:AH)(m d:Nat)(T P:List UInt8)(dp ls' ll:Nat)(cs:List cq)(s:Nat)(Ha:AH):Prop
 |mk (xs ys:List Int):M0 Ha m d T P dp cs.length ls' ll->Fr (fun i=>i=d) H Ha->ls'<Ha.length->H.length<=ls'->Ha[ls']?=some (.list ((xs.take cs.length++[(s:Int)]).map AV.int))->cs.length<=xs.length->xs.take cs.length=cs.map (fun c=>(c.1:Int))->
  Ha[ll]?=some (.list (ys.map AV.int))->ys.length<=40->cs.length<=ys.length->ys.take cs.length=cs.map (fun c=>c.2)->xq H m d T P dp ls' ll cs s Ha
def MS.push6(M:MS H m d T P dp ls ll cs){s:Nat}{Q:AH->Prop}(q:∀Ha,xq H m d T P dp (H.length+2) ll cs s Ha->Q Ha):
  fU 6 (.ref m) H (fun v H1=>fU 5 (.ref m) H1 (fun c H2=>qR gl v .none c H2 (fun a H3=>[AV.int (s:Int)].length<=fO/\nq .add a (.ref H3.length) (H3++[.list [.int (s:Int)]]) (fun v H4=>lT 6 (.ref m) v H4 Q)))):=by
 refine eD M.s fun xs x1 x2 x3=>?_;refine eD M.l fun ys y1 y2 y3=>?_;have lx:=m9 x3;have ly:=m9 y3;refine M.m.g6 (M.m.g5 (xu x1 x2 lx ?_));have A1:=M.m.app [.list ((xs.take cs.length).map AV.int),.list [.int (s:Int)],.list ((xs.take cs.length++[(s:Int)]).map AV.int)];refine A1.s6 ?_;have dl:d<H.length:=hZ M.m.d;have fA:=(Fr.snoc (S:=fun i=>i=d) H [AO.list ((xs.take cs.length).map AV.int),.list [.int (s:Int)],.list ((xs.take cs.length++[(s:Int)]).map AV.int)]).trans (Fr.set (o:=d8 T P dp cs.length (H.length+2) ll));refine q _ ⟨xs,ys,A1.upd dp cs.length (H.length+2) ll,fA,by simp,Xl ..,?_,lx,x3,fA.keep _ _ y1 M.lld,y2,ly,y3⟩;rw[aV (by exact Lq dl),Vm (by exact Am)];simp
inductive xr(H:AH)(m d:Nat)(T P:List UInt8)(dp ls' ll':Nat)(cs:List cq)(s:Nat)(kind:Int)(Hb:AH):Prop
 |mk (xs ys:List Int):M0 Hb m d T P dp cs.length ls' ll'->Fr (fun i=>i=d) H Hb->H.length<=ls'->H.length<=ll'->ls'≠ll'->ls'≠d->ll'≠d->Hb[ls']?=some (.list ((xs.take cs.length++[(s:Int)]).map AV.int))->cs.length<=xs.length->xs.take cs.length=cs.map (fun c=>(c.1:Int))->
  Hb[ll']?=some (.list ((ys.take cs.length++[kind]).map AV.int))->cs.length<=ys.length->ys.take cs.length=cs.map (fun c=>c.2)->xr H m d T P dp ls' ll' cs s kind Hb
def xq.push7(hd:d<H.length)(h:xq H m d T P dp ls' ll cs s Ha){Q:AH->Prop}(q:∀Hb,xr H m d T P dp ls' (Ha.length+2) cs s kind Hb->Q Hb):
  fU 7 (.ref m) Ha (fun v H1=>fU 5 (.ref m) H1 (fun c H2=>qR gl v .none c H2 (fun a H3=>[AV.int kind].length<=fO/\nq .add a (.ref H3.length) (H3++[.list [.int kind]]) (fun v H4=>lT 7 (.ref m) v H4 Q)))):=by
 obtain⟨xs,ys,A2,fA,l1,l2,gA,lx,x3,yA,y2,ly,y3⟩:=h;refine A2.g7 (A2.g5 (xu yA y2 ly ?_));have B1:=A2.app [.list ((ys.take cs.length).map AV.int),.list [.int kind],.list ((ys.take cs.length++[kind]).map AV.int)];refine B1.s7 ?_;have fl:=fA.len;have fB:=(Fr.snoc (S:=fun i=>i=d) Ha [AO.list ((ys.take cs.length).map AV.int),.list [.int kind],.list ((ys.take cs.length++[kind]).map AV.int)]).trans (Fr.set (o:=d8 T P dp cs.length ls' (Ha.length+2)));refine q _ ⟨xs,ys,B1.upd dp cs.length ls' (Ha.length+2),fA.trans fB,l2,by exact Lr fl,by exact Ls l1,by exact Lu hd l2,by exact Gs hd fl,fB.keep _ _ gA (Lv hd l2),lx,x3,?_,ly,y3⟩;rw[aV (by exact Gs hd fl),Vm (by exact Am)];simp
def xr.push5(h:xr H m d T P dp ls' ll' cs s kind Hb)(hc:cs.length<32){Q:AH->Prop}
  (q:∀H',Fr (fun i=>i=d) H H'->MS H' m d T P dp ls' ll' (cs++[(s,kind)])->H.length<=ll'->Q H'):
   fU 5 (.ref m) Hb (fun a H2=>ju a (.int 1) fun p q=>mj .add p q H2 (fun v H4=>lT 5 (.ref m) v H4 Q)):=by
 obtain⟨xs,ys,B2,fB,l1,l2,n1,n2,n3,gA,lx,x3,gB,ly,y3⟩:=h;refine B2.g5 (oY (B2.s5 ?_));have C:=B2.upd dp ((cs.length:Int)+1) ls' ll';have fC:Fr (fun i=>i=d) Hb (Hb.set d (d8 T P dp ((cs.length:Int)+1) ls' ll')):=Fr.set;have el:((cs.length:Int)+1)=(((cs++[(s,kind)]).length:Nat):Int):=by simp
 rw[el]at C;rw[el];rw[el]at fC;refine q _ (fB.trans fC) ⟨C,(i8 _ (fC.keep _ _ gA n2) ?_ ?_),(i8 _ (fC.keep _ _ gB n3) ?_ ?_),n1⟩ l2
 ·simp;omega
 ·rw[WZ (by simp;omega),x3];simp
 ·simp;omega
 ·rw[WZ (by simp;omega),y3];simp
def MS.pop(M:MS H m d T P dp ls ll (cs++[c])){Q:AH->Prop}(q:∀H',nc d ll H H'->MS H' m d T P dp ls ll cs->Q H'):
  fU 5 (.ref m) H (fun a H2=>ju a (.int 1) fun p q=>mj .sub p q H2 (fun v H4=>lT 5 (.ref m) v H4 Q)):=by
 refine M.m.g5 (j_ (M.m.s5 ?_));have el:(((cs++[c]).length:Nat):Int)-1=(cs.length:Int):=by simp
 rw[el];refine eD M.s fun xs x1 x2 x3=>?_;refine eD M.l fun ys y1 y2 y3=>?_;refine q _ nc.setd ⟨M.m.upd _ _ _ _,(i8 xs (by rw[aV M.lsd];exact x1) x2 ?_),(i8 ys (by rw[aV M.lld];exact y1) y2 ?_),M.ne⟩
 ·have:=congrArg (List.take cs.length) x3
  simpa [List.take_take]using this
 ·have:=congrArg (List.take cs.length) y3
  simpa [List.take_take]using this
def DI(h:tT k hn args H Q E)(hk:k<=n+1):aj (Gm gl n) ct cl (k-1) hn dK ([0,2,1,26].zip args) H (rQ Q) (fun _=>E):=by
 obtain⟨m,d,s,p,kind,T,P,dp,ls,ll,cs,f,rfl,M,hP,hp,hf,hd,h1,q⟩:=h;o_facts dK;refine M.m.g5 ?_;refine pT (b:=32) (fun hc=>?_) (fun hc=>?_)
 ·rw[if_pos hc]at q;exact⟨by exact Lw h1,q H (Fr.refl _)⟩
 rw[if_neg (Nat.not_le.mpr hc)]at q;o_facts e_;refine M.push6 fun H5 X5=>?_;o_facts fa;refine X5.push7 (hZ M.m.d) fun H6 X6=>?_;o_facts fc;refine X6.push5 hc fun Ha Fa Ma hl=>?_;generalize H5.length+2=ll' at*;generalize H.length+2=ls' at*;clear X5 X6;have Fa:nc d ll H Ha:=Fa.mono fun _=>.inl;o_facts ff;refine Ma.m.inst ?_;refine au (aZ hk) ⟨m,d,s,p,T,P,dp,ls',ll',cs++[(s,kind)],f,rfl,Ma,hP,hp,hf,hd,by exact xD h1,?_⟩;refine iD (fun hr=>?_) (fun hr=>?_) (fun e cs' hr=>?_)
 ·rw[hr]at q;exact fun H' b _=>q H' (Fa.two (.inr hl) b)
 ·rw[hr]at q;intro H' ls'' ll'' b M2 z _;have F2:=Fa.two (.inr hl) b;have z2:ll''=ll\/H.length<=ll'':=dM Fa.len (.inr hl) z;o_facts cP;refine RM ?_;refine M2.pop fun H3 F3 M3=>?_;o_facts fg;exact q _ _ _ (F2.two z2 F3) M3 z2
 ·rw[hr]at q;intro H' ls'' ll'' b M2 z _;o_facts cP;exact q _ _ _ (Fa.two (.inr hl) b) M2 (dM Fa.len (.inr hl) z)
theorem nQ{n:Nat}:∀j,kC cs j=some n->n<j/\(cs.getD n (0,0)).2=-1
 |0,h=>by injection h
 |j+1,h=>by
  rw[nP]at h
  split at h
  ·rename_i hc;(injection h with h;subst h);exact⟨by exact xw,hc⟩
  ·have:=nQ j h;exact⟨by exact Lx this,this.2⟩
def vj{α β:Type}{f:α->β}{l:List α}{n:Nat}{c:α}(hn:n<l.length)(h:f c=f l[n]):(l.set n c).map f=l.map f:=by
 apply List.ext_getElem?;intro i;rw[Ww,Ww,List.getElem?_set];by_cases e:n=i
 ·subst e;rw[if_pos rfl,if_pos hn,Vw hn];simp[h]
 ·rw[if_neg e]
def MS.sidx(M:MS H m d T P dp ls ll cs)(hi:i<cs.length){Q:AH->Prop}(q:∀H',nc d ll H H'->MS H' m d T P dp ls ll (cs.set i ((cs.getD i (0,0)).1,v))->Q H'):
  pv (.ref ll) (.int (i:Int)) (.int v) H Q:=by
 refine eD M.s fun xs x1 x2 x3=>?_;refine eD M.l fun ys y1 y2 y3=>?_;have ly:=m9 y3;refine⟨_,_,_,rfl,rfl,y1,Ws _,by simp;exact Im hi ly,by simp;show _<=4096;exact xA y2,?_⟩;have dm:ll≠m:=M.llm;refine q _ (Fr.set.mono fun _=>.inr) ⟨⟨by rw[aV (XD dm)];exact M.m.i,?_,M.m.t,M.m.p⟩,(i8 xs (by rw[aV M.ne];exact x1) x2 ?_),(i8 (ys.set i v) ?_ (by simpa using y2) ?_),M.ne⟩
 ·rw[aV (XD M.lld),WB];exact M.m.d
 ·rw[WB,x3];refine(vj hi ?_).symm;rw[VG,Vw hi];rfl
 ·rw[dy y1,WH,List.map_set]
 ·rw[WB,List.take_set,y3,List.map_set]
def J9(h:Fl k hn args H Q E)(hk:k<=n+1):aj (Gm gl n) ct cl (k-1) hn eQ ([0,2,1].zip args) H (rQ Q) (fun _=>E):=by
 obtain⟨m,d,s,p,T,P,dp,ls,ll,cs,f,rfl,M,hP,hp,hf,hd,h1,q⟩:=h;o_facts eQ;refine M.m.inst ?_;refine au (aZ hk) ⟨m,d,T,P,dp,ls,ll,cs,rfl,M,by exact Ak h1,?_⟩;induction hlo:bz cs using Option.casesOn with
 |none=>
  rw[hlo]at q;exact fun _=>q H (Fr.refl _)
 |some i=>
  rw[hlo]at q;refine kY (nQ _ hlo) fun hi hi1=>?_;intro _;dsimp only at q;o_facts gd;refine M.m.g6 (M.is hi (cK (M.m.g7 ?_)));generalize hv:(s:Int)-((cs.getD i (0,0)).1:Int)=v at*;refine M.sidx hi fun Ha Fa Ma=>?_;o_facts gf;refine Ma.m.inst ?_;refine au (aZ hk) ⟨m,d,s,p,T,P,dp,ls,ll,_,f,rfl,Ma,hP,hp,hf,hd,by exact xD h1,?_⟩;refine iD (fun hr=>?_) (fun hr=>?_) (fun e cs' hr=>?_)
  ·rw[hr]at q;exact fun H' b _=>q H' (Fa.two (.inl rfl) b)
  ·rw[hr]at q;intro H' ls'' ll'' b M2 z _;have F2:nc d ll H H':=Fa.two (.inl rfl) b;have z2:ll''=ll\/H.length<=ll'':=dM Fa.len (.inl rfl) z;o_facts dz;refine bJ (fun _=>?_) (fun h=>V2 h);refine M2.m.g7 ?_;refine M2.sidx (by rw[WB];exact hi) fun H3 F3 M3=>?_;have ec:(cs.set i ((cs.getD i (0,0)).1,v)).set i (((cs.set i ((cs.getD i (0,0)).1,v)).getD i (0,0)).1,-1)=cs:=by
    apply List.ext_getElem?;intro j;have gi:cs.getD i (0,0)=cs[i]:=by rw[VG,Vw hi];rfl
    rw[YD,List.getElem?_set];by_cases e:i=j
    ·subst e;rw[if_pos rfl,if_pos hi,Vw hi];rw[gi]at hi1⊢;rw[VG,W0 hi];show some (cs[i].1,(-1:Int))=some cs[i];rw[←hi1]
    ·rw[if_neg e]
   rw[ec]at M3;exact q _ _ _ (F2.two z2 F3) M3 z2
  ·rw[hr]at q;intro H' ls'' ll'' b M2 z _;o_facts dz;exact q _ _ _ (Fa.two (.inl rfl) b) M2 (dM Fa.len (.inl rfl) z)
def br(h:atP P p=c)(hc:c≠0):p<P.length:=by
 rcases Xd p P.length with z|z
 ·exact z
 ·rw[nh z]at h;exact absurd h.symm hc
theorem wd:∀(f p:Nat)(b:Bool)(e:Nat),jn P f p b=some e->p+1<=e/\e<=P.length
 |0,p,b,e,h=>by injection h
 |f+1,p,b,e,h=>by
  rw[lu]at h
  split at h
  ·split at h
   ·injection h
   ·rename_i hl
    split at h
    ·rename_i hx;have:=wd f _ _ _ h;exact Ly this
    ·have:=wd f _ _ _ h;exact Lz this
  ·rename_i hc;(injection h with h;subst h);have:atP P p=93:=by simp at hc;exact hc.2
   have:=br this (by decide);exact LA this
def lz(hp:p<P.length)(h:bp P p=some e):p+1<=e/\e<=P.length/\(atP P p=37->p+1<P.length):=by
 unfold bp at h
 split at h
 ·split at h
  ·injection h
  ·injection h;exact Pu val_eq (by assumption)
 ·split at h
  ·injection h;exact Pv val_eq hp (by assumption)
  ·have:=wd _ _ _ _ h
   split at this<;>first|exact Pw this|exact Px this
def dU.ext(h:dU H m d T P dp ll cs r Q E)(x:a9 H H1):dU H1 m d T P dp ll cs r Q E:=h.back (Fr.of x) (.inl rfl)
noncomputable def HL(T P:List UInt8)(f s p:Nat)(cs:List cq):jh:=match bp P p with
 |none=>.err
 |some e=>
  let sg:=fun s=>ar T P s p e
  let g:=fun s=>aG T P f s (e+1) cs
  if atP P e=42 then b9 (fun i=>g (s+i)) (cR (fun i=>sg (s+i)) (T.length+1) 0)
  else if atP P e=43 then(if sg s then b9 (fun i=>g (s+1+i)) (cR (fun i=>sg (s+1+i)) (T.length+1) 0)else .fail)
  else if atP P e=45 then cw g sg (T.length+2) s
  else if atP P e=63 then(if sg s then(match g (s+1)with|.fail=>g s|r=>r)else g s)
  else if sg s then aG T P f (s+1) e cs else .fail
structure HZ(Hy:AH)(m d p ll:Nat)(T P:List UInt8)(dp f:Nat)(cs:List cq)(Q:QE)(E:AH->Prop)(K:yK->aM->AH->Prop):Prop where
 ret:∀{v l h},Q v h->K (.ret v) l h
 go:∀{fl loc2 H3 s' p' ls' ll'},(fl=.next\/fl=.cont)->nc d ll Hy H3->MS H3 m d T P dp ls' ll' cs->(ll'=ll\/Hy.length<=ll')->lk 0 loc2=some (.ref m)->lk 2 loc2=some (.int (s':Nat))->lk 1 loc2=some (.int (p':Nat))->
  p'<=P.length->p<p'->dU H3 m d T P dp ll' cs (aG T P f s' p' cs) Q E->K fl loc2 H3
def HZ.post(X:HZ H0 m d p ll0 T P dp f cs Q E K)(q:dU H m d T P dp ll cs r Q E):dU H m d T P dp ll cs r (fun v H1=>bB H H1->K (.ret v) loc H1) (fun H1=>bB H H1->E H1):=by
 induction r using jh.casesOn with
 |err=>exact fun H' b _=>q H' b
 |fail=>exact fun H' ls' ll' b M z _=>X.ret (q H' ls' ll' b M z)
 |ok e cs'=>exact fun H' ls' ll' b M z _=>X.ret (q H' ls' ll' b M z)
def HZ.ext(X:HZ H m d p ll T P dp f cs Q E K)(x:a9 H H1):HZ H1 m d p ll T P dp f cs Q E K:=
 ⟨X.ret,fun e F M z a0 a2 a1 b1 b2 q=>X.go e (nc.two (Fr.of x) (.inl rfl) F) M (dM x.len (.inl rfl) z) a0 a2 a1 b1 b2 q⟩
def xV{s p f:Nat}(M:MS H m d T P dp ls ll cs)(X:HZ H m d p ll T P dp f cs Q E K)(hP:bP P)(hc:p<P.length)(hf:P.length<=f+p)(hd:dp+f<=59)(hk:k<=n+1)(hk1:3*f+12<=k)
  (l0:lk 0 loc=some (.ref m))(l2:lk 2 loc=some (.int s))(l1:lk 1 loc=some (.int p))(q:dU H m d T P dp ll cs (HL T P f s p cs) Q E):aj (Gm gl n) ct cl (k-1) hn dE loc H K (fun _=>E):=by
 have hz:=M.m.p;unfold HL at q;o_facts dE;rw[l0,l1];refine M.m.inst (au (aZ hk) ⟨m,d,p,T,P,dp,cs.length,ls,ll,rfl,M.m,by exact An hk1,?_⟩);induction hce:bp P p using Option.casesOn with
 |none=>
  rw[hce]at q;exact fun _=>q _ (Fr.refl _)
 |some e=>
 rw[hce]at q;refine qX (lz hc hce) fun b1 b2 b3=>?_;intro _;dsimp only at q;o_facts gz;rw[l0];refine M.m.inst (uF M.m (p:=e) (aZ hk) (xE hk1) rfl ?_);o_facts gE;rw[l0,l1,l2];refine bG (b:=42) (fun h42=>?_) (fun h42=>?_)
 ·rw[if_pos h42]at q;have:=br h42 (by decide);refine M.m.inst (au (aZ hk) ⟨m,d,s,p,e,T,P,dp,ls,ll,cs,f,rfl,M,hP,hc,b3,by exact um b1,by exact uz this,by exact Ao b1 hf,by exact l_ hd,by exact rj hk1,?_⟩);exact X.post q
 rw[if_neg h42]at q;o_facts gF;rw[l0,l1,l2];refine bG (b:=43) (fun h43=>?_) (fun h43=>?_)
 ·rw[if_pos h43]at q;have:=br h43 (by decide);refine M.m.inst (au (aZ hk) ⟨m,d,s,p,e,T,P,dp,cs.length,ls,ll,rfl,M.m,hP,hc,b3,by exact um b1,by exact qZ b2,by exact An hk1,fun H3 x _=>?_⟩);have q:=q.ext x;have M3:=M.ext x;refine bJ (fun hs=>?_) (fun hs=>?_)
  ·rw[if_pos hs]at q;refine M3.m.inst (aI (b:=1) ?_);refine au (aZ hk) ⟨m,d,s+1,p,e,T,P,dp,ls,ll,cs,f,rfl,M3,hP,hc,b3,by exact um b1,by exact uz this,by exact Ao b1 hf,by exact l_ hd,by exact rj hk1,?_⟩;exact X.post q
  ·rw[if_neg (by rw[hs];decide)]at q;exact X.ret (q _ _ _ (Fr.refl _) M3 (.inl rfl))
 rw[if_neg h43]at q;o_facts gG;rw[l0,l1,l2];refine bG (b:=45) (fun h45=>?_) (fun h45=>?_)
 ·rw[if_pos h45]at q;have:=br h45 (by decide);refine M.m.inst (au (aZ hk) ⟨m,d,s,p,e,T,P,dp,ls,ll,cs,f,rfl,M,hP,hc,b3,by exact um b1,by exact uz this,by exact Ao b1 hf,by exact l_ hd,by exact rj hk1,?_⟩);exact X.post q
 rw[if_neg h45]at q;o_facts gH;rw[l0,l1,l2];refine M.m.inst (au (aZ hk) ⟨m,d,s,p,e,T,P,dp,cs.length,ls,ll,rfl,M.m,hP,hc,b3,by exact um b1,by exact qZ b2,by exact An hk1,fun H3 x _=>?_⟩);have q:=q.ext x;have M3:=M.ext x;have F3:nc d ll H H3:=Fr.of x;o_facts gJ;refine bG (b:=63) (fun h63=>?_) (fun h63=>?_)
 ·rw[if_pos h63]at q;have:=br h63 (by decide);o_facts gK;refine bJ (fun hs=>?_) (fun hs=>?_)
  ·rw[if_pos hs]at q;o_facts gM;rw[l0,l2];refine M3.m.inst (aI (b:=1) (aI (b:=1) ?_));refine au (aZ hk) ⟨m,d,s+1,e+1,T,P,dp,ls,ll,cs,f,rfl,M3,hP,by exact bI this,by exact LC b1 hf,by exact l_ hd,by exact LD hk1,?_⟩;refine iD (fun hr=>?_) (fun hr=>?_) (fun e' cs' hr=>?_)
   ·rw[hr]at q;exact fun H' b _=>q H' b
   ·rw[hr]at q;dsimp only at q;intro H' ls'' ll'' b M4 z _;have q:=q.back b z;have z4:=dM F3.len (.inl rfl) z;o_facts dG;refine bJ (fun h=>V2 h) (fun _=>?_);o_facts dH;refine aI (b:=1) ?_;exact X.go (.inr rfl) (F3.two (.inl rfl) b) M4 z4 l0 l2 rfl (bI this) (Gu b1) q
   ·rw[hr]at q;intro H' ls'' ll'' b M4 z _;o_facts dG;exact X.ret (q _ _ _ b M4 z)
  ·rw[if_neg (by rw[hs];decide)]at q;o_facts dH;refine aI (b:=1) ?_;exact X.go (.inr rfl) F3 M3 (.inl rfl) l0 l2 rfl (bI this) (Gu b1) q
 rw[if_neg h63]at q;o_facts gN;induction hs:ar T P s p e using Vu with
 |false=>
  rw[if_neg (by rw[hs];decide)]at q;refine bJ (fun _=>?_) (fun h=>V2 h);exact X.ret (q _ _ _ (Fr.refl _) M3 (.inl rfl))
 |true=>
  rw[if_pos hs]at q;refine bJ (fun h=>V2 h) (fun _=>?_);o_facts gO;rw[l2];refine aI (b:=1) (da (by show 2<=4096;decide) ⟨rfl,by decide,?_⟩);have x4:=x.trans (a9.app H3 [AO.tup [.int ((s+1:Nat):Int),.int e]]);exact X.go (.inl rfl) (Fr.of x4) (M.ext x4) (.inl rfl) l0 rfl rfl (qZ b2) (uo b1) (q.ext (a9.app H3 _))
def Jz{s p f:Nat}(M:MS H m d T P dp ls ll cs)(X:HZ H m d p ll T P dp f cs Q E K)(hP:bP P)(hc:p<P.length)(hf:P.length<=f+p)(hd:dp+f<=59)(hk:k<=n+1)(hk1:3*f+12<=k)
  (l0:lk 0 loc=some (.ref m))(l2:lk 2 loc=some (.int s))(l1:lk 1 loc=some (.int p))(q:dU H m d T P dp ll cs (aG T P (f+1) s p cs) Q E):aj (Gm gl n) ct cl (k-1) hn ek loc H K (fun _=>E):=by
 have hz:=M.m.p;rw[bW]at q;rw[if_neg (Nat.not_le.mpr hc)]at q;o_facts ek;rw[l0];refine M.m.inst (sI M.m (aZ hk) (xE hk1) ?_);o_facts iQ;rw[l0,l1];refine M.m.g1 (a_ (dh hz) hc ?_);refine M.m.inst (aI (b:=1) ?_);refine uF M.m (p:=p+1) (aZ hk) (xE hk1) rfl ?_;refine da (by show 2<=4096;decide) ⟨rfl,by decide,?_⟩;have x1:=a9.app H [AO.tup [.int (atP P p),.int (atP P (p+1))]];have M1:=M.ext x1;have q:=q.ext x1;have X:=X.ext x1;clear M;generalize H++[AO.tup [.int (atP P p),.int (atP P (p+1))]]=Hy at*;dsimp only[WN,W7,XT,Zm];have k0:lk 0 (st 19 (AV.int ↑(atP P (p+1))) (st 13 (AV.int ↑(atP P p)) loc))=_:=aJ rfl l0;have k2:lk 2 (st 19 (AV.int ↑(atP P (p+1))) (st 13 (AV.int ↑(atP P p)) loc))=_:=aJ rfl l2;have k1:lk 1 (st 19 (AV.int ↑(atP P (p+1))) (st 13 (AV.int ↑(atP P p)) loc))=_:=aJ rfl l1;have k13:lk 13 (st 19 (AV.int ↑(atP P (p+1))) (st 13 (AV.int ↑(atP P p)) loc))=_:=aJ rfl iY;have k19:lk 19 (st 19 (AV.int ↑(atP P (p+1))) (st 13 (AV.int ↑(atP P p)) loc))=_:=iY;generalize st 19 (AV.int ↑(atP P (p+1))) (st 13 (AV.int ↑(atP P p)) loc)=loc at*;o_facts iR;rw[k13];refine bG (b:=40) (fun h40=>?_) (fun h40=>?_)
 ·rw[if_pos h40]at q;o_facts iS;rw[k19,k0,k1,k2];refine bG (b:=41) (fun h41=>?_) (fun h41=>?_)
  ·rw[if_pos h41]at q;have:=br h41 (by decide);refine M1.m.inst (aI (b:=2) ?_);refine au (aZ hk) ⟨m,d,s,p+2,-2,T,P,dp,ls,ll,cs,f,rfl,M1,hP,by exact Ag this,by exact LG hf,by exact l_ hd,by exact rj hk1,?_⟩;exact X.post q
  ·rw[if_neg h41]at q;o_facts iT;rw[k0,k1,k2];refine M1.m.inst (aI (b:=1) ?_);refine au (aZ hk) ⟨m,d,s,p+1,-1,T,P,dp,ls,ll,cs,f,rfl,M1,hP,by exact bI hc,by exact xC hf,by exact l_ hd,by exact rj hk1,?_⟩;exact X.post q
 rw[if_neg h40]at q;o_facts iU;rw[k13,k0,k1,k2];refine bG (b:=41) (fun h41=>?_) (fun h41=>?_)
 ·rw[if_pos h41]at q;refine M1.m.inst (aI (b:=1) ?_);refine au (aZ hk) ⟨m,d,s,p+1,T,P,dp,ls,ll,cs,f,rfl,M1,hP,by exact bI hc,by exact xC hf,by exact l_ hd,by exact rj hk1,?_⟩;exact X.post q
 rw[if_neg h41]at q;have okp:=okN_cases (hP.at p);o_facts iV;rw[k13];refine BC (by simp[bk];exact LH okp) ?_;refine u4 rfl ?_;have okp1:=okN_cases (hP.at (p+1));o_facts iW;rw[k13,k19];refine bG (b:=37) (fun h37=>?_) (fun h37=>?_)
 ·refine⟨_,_,rfl,rfl,Ws _,by exact LI okp1,by show 2<=4096;decide,?_⟩;by_cases h98:atP P (p+1)=98
  ·rw[if_pos ⟨h37,h98⟩]at q;refine Qn (by rw[h98];rfl) ?_;o_facts iX;rw[k0,k1,k2,k19];refine M1.m.inst ?_;refine au (aZ hk) ⟨m,d,s,p,T,P,dp,cs.length,ls,ll,by rw[h98];rfl,M1.m,by exact LJ hk1,?_⟩;by_cases h3:P.length<=p+3
   ·rw[if_pos h3]at q⊢;exact fun _=>q _ (Fr.refl _)
   rw[if_neg h3]at q⊢;intro H3 t x ht _;have q:=q.ext x;have M3:=M1.ext x;refine⟨_,_,rfl,ht,rfl,by decide,?_⟩;dsimp only[WN,W7,XT,Zm];o_facts gy;induction hb:lj T s (atP P (p+2)) (atP P (p+3))using Option.casesOn with
   |none=>
    rw[hb]at q;refine bJ (fun _=>?_) (fun h=>V2 h);exact X.ret (q _ _ _ (Fr.refl _) M3 (.inl rfl))
   |some s'=>
    rw[hb]at q;refine bJ (fun h=>V2 h) (fun _=>?_);exact X.go (.inr rfl) (Fr.of x) M3 (.inl rfl) k0 rfl rfl (Gv h3) LK q
  ·rw[if_neg (fun z=>h98 z.2)]at q;refine u4 ?_ ?_
   ·simp only[List.any_cons,List.any_nil,YV,XF,decide_eq_false_iff_not];exact⟨fun h=>(ar545 h98:(98:Nat)=atP P (p+1)->False) (ZE.mp h),fun h=>(ar546 okp1:(102:Nat)=atP P (p+1)->False) (ZE.mp h)⟩
   refine au (aZ hk) ⟨atP P (p+1),rfl,by exact xE hk1,fun _=>?_⟩;refine bJ (fun h=>?_) (fun h=>?_)
   ·simp at h;exact(PG okp1 h.1 h.2).elim
   exact xV M1 X hP hc hf hd hk hk1 k0 k2 k1 q
 ·rw[if_neg (fun z=>h37 z.1)]at q;exact xV M1 X hP hc hf hd hk hk1 k0 k2 k1 q
inductive Ab(H:AH)(m d ll:Nat)(T P:List UInt8)(dp f:Nat)(cs:List cq)(Q:QE)(E:AH->Prop)(n0:Nat)(loc1:aM)(H1:AH):Prop
 |mk (s' p' ls' ll':Nat):nc d ll H H1->MS H1 m d T P dp ls' ll' cs->(ll'=ll\/H.length<=ll')->lk 0 loc1=some (.ref m)->lk 2 loc1=some (.int s')->lk 1 loc1=some (.int p')->n0<=f->
  p'<=P.length->P.length+1<=n0+p'->dU H1 m d T P dp ll' cs (aG T P n0 s' p' cs) Q E->Ab H m d ll T P dp f cs Q E n0 loc1 H1
def FJ(h:yv k hn args H Q E)(hk:k<=n+1):aj (Gm gl n) ct cl (k-1) hn fV ([0,2,1].zip args) H (rQ Q) (fun _=>E):=by
 obtain⟨m,d,s,p,T,P,dp,ls,ll,cs,f,rfl,M,hP,hp,hf,hd,h1,q⟩:=h;o_facts fV;refine i2 (Ab H m d ll T P dp f cs Q E) f ⟨s,p,ls,ll,Fr.refl _,M,.inl rfl,rfl,rfl,rfl,VB _,hp,hf,q⟩ ?_;clear q M;rintro n0 loc1 Hx _ ⟨s,p,ls',ll',FX,M,hll,l0,l2,l1,hff,hp,hf,q⟩;obtain⟨f',rfl⟩:∃f2,n0=f2+1:=(i4 (n0-1) (Gw hf hp))
 have hz:=M.m.p;rw[l0,l1];refine M.m.g1 (len_bytes (dh hz) ?_);refine jq (fun hc=>?_) (fun hc=>?_)
 case refine_2=>
  rw[bW]at q;rw[if_pos hc]at q;o_facts gP;rw[l2];exact q _ _ _ (Fr.refl _) M (.inl rfl)
 have inv:∀{loc2:aM} {H3:AH} {s' p' ls'' ll'':Nat},nc d ll' Hx H3->MS H3 m d T P dp ls'' ll'' cs->(ll''=ll'\/Hx.length<=ll'')->lk 0 loc2=some (.ref m)->lk 2 loc2=some (.int s')->lk 1 loc2=some (.int p')->
   p'<=P.length->p<p'->dU H3 m d T P dp ll'' cs (aG T P f' s' p' cs) Q E->∃m_1:Nat,m_1<f'+1/\Ab H m d ll T P dp f cs Q E m_1 loc2 H3:=
  fun F M z a0 a2 a1 b1 b2 q=>⟨f',Yk _,_,_,_,_,FX.two hll F,M,dM FX.len hll z,a0,a2,a1,Nat.le_of_succ_le hff,b1,by exact uq hf b2,q⟩
 refine Jz M ⟨fun h=>h,fun e F M z a0 a2 a1 b1 b2 q=>?_⟩ hP hc (Py hf) (Pz hff hd) hk (PA h1 hff) l0 l2 l1 q;rcases e with rfl|rfl
 ·exact inv F M z a0 a2 a1 b1 b2 q
 ·exact inv F M z a0 a2 a1 b1 b2 q
def FP(h:yC k hn args H Q E)(hk:k<=n+1):aj (Gm gl n) ct cl (k-1) hn ef ([32].zip args) H (rQ Q) (fun _=>E):=by
 obtain⟨b,rfl,h1,q⟩:=h;o_facts ef;exact⟨⟨_,rfl⟩,(if_pos trivial).mpr q⟩
def z5(h:pn k hn args H Q E)(hk:k<=n+1):aj (Gm gl n) ct cl (k-1) hn ed ([22,4].zip args) H (rQ Q) (fun _=>E):=by
 obtain⟨b,e,rfl,h1,q⟩:=h;o_facts ed;unfold behindN at q;refine wg (fun hc=>?_) (fun hc=>?_)
 ·rw[if_pos hc]at q;exact q
 ·rw[if_neg (W8.mpr hc)]at q;exact hO q
def HP{bag sl a:Nat}(e:H[bag]?=some (.dict [(8,.ref sl),(9,.int a)]))(q:Q (.int a) H):Cs 9 (.ref bag) H Q:=⟨_,_,_,rfl,e,rfl,by show [8,9].Nodup;decide,q⟩
def HO{bag sl a:Nat}(e:H[bag]?=some (.dict [(8,.ref sl),(9,.int a)]))(q:Q (.ref sl) H):Cs 8 (.ref bag) H Q:=⟨_,_,_,rfl,e,rfl,by show [8,9].Nodup;decide,q⟩
def FQ(h:yD k hn args H Q E)(hk:k<=n+1):aj (Gm gl n) ct cl (k-1) hn lH ([41,25].zip args) H (rQ Q) (fun _=>E):=by
 obtain⟨bag,sl,a,many,xs,rfl,hb,hsl,hx,ha,hm,h1,q⟩:=h;have sb:sl≠bag:=fun e=>by rw[e,hb]at hsl;cases hsl
 o_facts lH;refine HP hb (aI (b:=1) ?_);refine⟨_,_,rfl,hb,rfl,by show [8,9].Nodup;decide,by show 2<100;decide,?_⟩;have g1:(H.set bag (.dict [(8,.ref sl),(9,.int ((a+1:Nat):Int))]))[bag]?=some (.dict [(8,.ref sl),(9,.int ((a+1:Nat):Int))]):=dy hb;have g2:(H.set bag (.dict [(8,.ref sl),(9,.int ((a+1:Nat):Int))]))[sl]?=some (.list (xs.map AV.int)):=by rw[aV sb];exact hsl
 show aj _ _ _ _ _ ik _ (H.set bag (.dict [(8,.ref sl),(9,.int ((a+1:Nat):Int))])) _ _;generalize H.set bag (.dict [(8,.ref sl),(9,.int ((a+1:Nat):Int))])=Ha at*;o_facts ik;refine HP g1 ?_;o_facts mG;refine HO g1 ?_;refine .li _ _ rfl g2 (by rw[VI];show _<=4096;exact dh hx) ?_;have fin:∀x:Int,nq .mod (.int x) (.int many) Ha (fun v H1=>Q v H1):=fun x=>by
  refine .ii _ _ rfl rfl ⟨by exact Gx hm,?_⟩;have e1:=Int.emod_nonneg x (show(many:Int)≠0 by exact LL hm);have e2:=Int.emod_lt_of_pos x (show(0:Int)<many by exact Gx hm);obtain⟨v,hv⟩:∃v:Nat,x%(many:Int)=(v:Int):=⟨(x%(many:Int)).toNat,by omega⟩
  rw[hv];exact q v (LM e2 hv)
 rw[VI];refine nv (fun hc=>?_) (fun hc=>?_)
 ·refine HO g1 (cK ?_);have e1:(((a+1:Nat):Int)-1)=(a:Int):=by exact xB
  rw[e1];exact qf g2 (dh hx) (Vw (show a<xs.length by exact uo hc)) (fin _)
 ·o_facts mH;refine .ii _ _ rfl rfl ⟨⟨by decide,by omega⟩,.ii _ _ rfl rfl ⟨⟨by omega,by omega⟩,.ii _ _ rfl rfl ⟨⟨by decide,by decide⟩,hO (fin _)⟩⟩⟩
def fJ{i:Nat}{v:AV}{F:AV->Prop}(h:H[i]?=some (.cell (some v)))(q:F v):(match H[i]?with|some (.cell (some v))=>F v|_=>False):=by rw[h];exact q
def FI(h:yu cl k hn args H Q E)(hk:k<=n+1):aj (Gm gl n) ct cl.reverse (k-1) hn bF ([27].zip args) H (rQ Q) (fun _=>E):=by
 obtain⟨m,d,b,e,nn,cb,ce,cm,T,P,dp,ls,ll,cs,rfl,rfl,M,hcs,hb,he,hm,h1,q⟩:=h;have hT:=M.m.t;show aj (Gm gl n) ct [cb,ce,cm] (k-1) hn bF ([27].zip [.int nn]) H (rQ Q) (fun _=>E);o_facts bF;unfold eu at q;refine bG (b:=0) (fun hc=>?_) (fun hc=>?_)
 ·rw[if_pos hc]at q;exact fJ hm (M.m.g0 (fJ hb (fJ he (gY (kF hT) (q _ (Fr.refl _))))))
 ·rw[if_neg hc]at q;o_facts c_;refine fJ hm (M.m.inst (cK ?_));have e1:((nn:Int)-1)=((nn-1:Nat):Int):=by exact LN hc
  rw[e1];refine fJ hb (fJ he ?_);refine au (aZ hk) ⟨m,d,nn-1,b,e,T,P,dp,ls,ll,cs,rfl,M,hcs,by exact LP h1,?_⟩;induction hv:lq T cs (nn-1) b e using Option.casesOn with
  |none=>
   rw[hv]at q;exact fun H' x _=>q H' x
  |some v=>
   rw[hv]at q;induction v using AV.casesOn<;>first|exact q.elim|skip
   intro H' x _;exact au (aZ hk) ⟨_,rfl,by exact LQ h1,fun _=>q H' x⟩
def FG(h:yr cl k hn args H Q E)(hk:k<=n+1):aj (Gm gl n) ct cl (k-1) hn cQ ([43].zip args) H (rQ Q) (fun _=>E):=by
 obtain⟨m,d,b,cm,T,P,dep,lev,ls,ll,rfl,rfl,M,hP,hm,h1,q⟩:=h;o_facts cQ;refine fJ hm (M.inst (au (aZ hk) ⟨m,d,T,P,dep,lev,ls,ll,rfl,M,by exact LS h1,fun Ha ls' ll' F M1 hl _=>?_⟩));have hm':Ha[cm]?=some (.cell (some (.ref m))):=F.keep _ _ hm fun e=>by rw[e,M.d]at hm;cases hm
 o_facts dZ;refine fJ hm' (M1.m.inst (au (aZ hk) ⟨m,d,b,0,T,P,0,ls',ll',[],P.length+1,rfl,M1,hP,by exact ur,by exact Gr,by have:=hP.1;exact LV this,by have:=hP.1;exact LW h1 this,?_⟩));have fr:∀{H'},nc d ll' Ha H'->Fr (fun i=>i=d) H H':=fun{H'} f=>⟨V4 F.len f.len,fun i o e nn=>f.keep i o (F.keep i o e nn) fun z=>by
  rcases z with z|z
  ·exact nn z
  ·have:=hZ e;exact Ai this z hl⟩
 refine iD (fun hr=>?_) (fun hr=>?_) (fun e cs' hr=>?_)
 ·rw[hr]at q;exact fun H' f _=>q H' (fr f)
 ·rw[hr]at q;exact fun H' ls'' ll'' f M2 _ _=>q H' ls'' ll'' (fr f) M2
 ·rw[hr]at q;exact fun H' ls'' ll'' f M2 _ _=>q H' ls'' ll'' (fr f) M2
def iC:fF cs=false↔∀(i:Nat)(c:cq),cs[i]?=some c->c.2≠-1:=by
 unfold fF;rw[ZQ];constructor
 ·intro h i c hc;have:=h c (VP hc)
  simpa using this
 ·intro h c hc;refine o8 (List.getElem?_of_mem hc) fun i hi=>?_
  simpa using h i c hi
def yX(hi:i<cs.length\/i=0)(h:lq T cs i s e=none):∃c,cs[i]?=some c/\c.2=-1:=by
 unfold lq at h
 split at h
 ·split at h
  ·omega
  ·injection h
 ·rename_i hl;rw[Vw (show i<cs.length by exact Ap hl)]at h⊢;dsimp only at h;refine i0 _ rfl ?_
  split at h
  ·rename_i z;exact z
  ·split at h<;>injection h
def yY(h:lq T cs i s e=some v):∀c,cs[i]?=some c->c.2≠-1:=by
 intro c hc z;unfold lq at h
 split at h
 ·rename_i hl;rw[W_ hl]at hc;injection hc
 ·rw[hc]at h;obtain⟨a,b⟩:=c;dsimp only at h z;rw[if_pos z]at h;injection h
noncomputable def PX:IE:=.mcall (.cel 0) 267 (.cons (.loc 27) (.cons (.cel 1) (.cons (.cel 2) .nil)))
def By(gl:GL)(n k a:Nat)(E:AH->Prop)(u:AV)(H2:AH)(Q2:QE):Prop:=ae (Gm gl n) [a+0,a+1,a+2] (k-1) true [(27,u)] PX H2 Q2 E
theorem Bz{a s e:Nat}(M0:MS Ha m d T P dp ls ll cs)(hcs:je T cs)(c0:Ha[a+0]?=some (.cell (some (.ref m))))(c1:Ha[a+1]?=some (.cell (some (.int s))))(c2:Ha[a+2]?=some (.cell (some (.int e))))
  (qE:fF cs=true->∀H',a9 Ha H'->E H')(h1:6<=k)(hk:k<=n+1):∀(r i:Nat)(acc:List AV)(Hc:AH)(K:List AV->AH->Prop),a9 Ha Hc->(∀j,j<r->i+j<cs.length\/i+j=0)->(∀(j:Nat)(c:cq),j<i->cs[j]?=some c->c.2≠-1)->
   (∀vs H2,a9 Ha H2->(∀(j:Nat)(c:cq),j<i+r->cs[j]?=some c->c.2≠-1)->K vs H2)->
   bt (fun _=>True) (fun _ H2 Q2=>Q2 true H2) (By gl n k a E) ((Zk i r).map fun(j:Nat)=>AV.int (Int.ofNat j)) acc Hc K
 |0,i,acc,Hc,K,x,_,hold,hK=>hK acc Hc x hold
 |r+1,i,acc,Hc,K,x,hlt,hold,hK=>by
  rw[List.range'_succ,VL];have M1:=M0.ext x;show By gl n k a E (AV.int (i:Nat)) Hc (fun v H2=>True/\bt (fun _=>True) (fun _ H2 Q2=>Q2 true H2) (By gl n k a E) ((Zk (i+1) r).map fun(j:Nat)=>AV.int (Int.ofNat j)) (acc++[v]) H2 K);unfold By;o_facts PX;refine fJ (x.keep _ _ c0 (fun z=>z)) (M1.m.inst (fJ (x.keep _ _ c1 (fun z=>z)) (fJ (x.keep _ _ c2 (fun z=>z)) (au (aZ hk) ⟨m,d,i,s,e,T,P,dp,ls,ll,cs,rfl,M1,hcs,by exact Gl h1,?_⟩))));have hi:=hlt 0 (Nat.zero_lt_succ _);rw[Nat.add_zero]at hi;induction hv:lq T cs i s e using Option.casesOn with
  |none=>
   refine o1 (yX hi hv) fun c g1 g2=>?_;have odd:fF cs=true:=by
    induction ho:fF cs using Vu with
    |true=>rfl
    |false=>exact absurd g2 (iC.mp ho i c g1)
   exact fun H' x' _=>qE odd H' (x.trans x')
  |some v=>
   intro H' x' _;refine⟨trivial,Bz M0 hcs c0 c1 c2 qE h1 hk r (i+1) _ H' K (x.trans x') (fun j hj=>?_) (fun j c hj hc=>?_) (fun vs H2 x2 hall=>hK vs H2 x2 fun j c hj hc=>hall j c (LX hj) hc)⟩
   ·have:=hlt (j+1) (Gy hj);exact LY this
   ·rcases Xd j i with z|z
    ·exact hold j c z hc
    ·have:j=i:=by exact xF hj z
     subst this;exact yY hv c hc
def vQ(h:km k hn args H Q E)(hk:k<=n+1):cU H.length [.c 0,.c 1,.c 2,.l 31] args [] (H++VJ 3 (.cell none))
  (fun loc H'=>bB H H'->aj (Gm gl n) ct [H.length+0,H.length+1,H.length+2] (k-1) hn dY loc H' (rQ Q) (fun _=>E)):=by
 obtain⟨m,d,s,e,T,P,dp,ls,ll,cs,rfl,M,hcs,h1,rfl,hl40,q⟩:=h;simp only[pd,pb,pe];intro _;generalize hH:(((H++VJ 3 (AO.cell none)).set (H.length+0) (.cell (some (.ref m)))).set (H.length+1) (.cell (some (.int s)))).set (H.length+2) (.cell (some (.int e)))=Ha;have hH':Ha=H++[.cell (some (.ref m)),.cell (some (.int s)),.cell (some (.int e))]:=by
  rw[←hH];simp[VJ,List.set_append]
 have x0:a9 H Ha:=hH'▸a9.app _ _;have c0:Ha[H.length+0]?=some (.cell (some (.ref m))):=by rw[hH',Vm (by exact Aq)];simp
 have c1:Ha[H.length+1]?=some (.cell (some (.int s))):=by rw[hH',Vm (by exact lg)];simp
 have c2:Ha[H.length+2]?=some (.cell (some (.int e))):=by rw[hH',Vm (by exact Am)];simp
 clear hH hH';have M0:=M.ext x0;have qE:fF cs=true->∀H',a9 Ha H'->E H':=fun o H' x=>by rw[if_pos o]at q;exact q H' (x0.trans x)
 have qQ:fF cs=false->∀H' v,a9 Ha H'->Q v H':=fun o H' v x=>by rw[if_neg (by rw[o];decide)]at q;exact q H' v (x0.trans x)
 clear q;have fin:∀N:Nat,N<=40->(∀j,j<N->0+j<cs.length\/0+j=0)->cs.length<=N->
   bt (fun _=>True) (fun _ H2 Q2=>Q2 true H2) (By gl n k H.length E) (bH N) [] Ha (fun vs H2=>Q (.ref H2.length) (H2++[.list vs])):=by
  intro N _ hN hN2;have e:bH N=(Zk 0 N).map fun(j:Nat)=>AV.int (Int.ofNat j):=by
   unfold bH;rw[WH,List.range_eq_range']
  rw[e];refine Bz M0 hcs c0 c1 c2 qE (LZ h1) hk N 0 [] Ha _ (Fr.refl _) hN (fun j c hj=>by exact(L0 hj).elim) fun vs H2 x2 hall=>qQ (iC.mpr fun i c hc=>?_) _ _ (x2.trans (a9.app _ _));exact hall i c (by have:=(Vn.mp hc).1;exact L1 this hN2) hc
 o_facts dY;refine fJ c0 (M0.m.g5 ?_);refine bG (b:=0) (fun hc=>?_) (fun hc=>?_)
 ·refine bJ (fun _=>?_) (fun h=>V2 h);exact⟨_,rfl,rfl,by decide,by decide,fin 1 L2 (fun j hj=>by exact L3 hj) (L6 hc)⟩
 ·refine u4 rfl ?_;refine fJ c0 (M0.m.g5 ?_);exact⟨_,rfl,rfl,by exact Gz,by exact L7 hl40,fin cs.length (L8 hl40) (fun j hj=>by exact L9 hj) uu⟩
end
section
variable{T P:List UInt8}
def CW(s:Nat)(cs:List cq):Prop:=∀c∈cs,c.1<=s/\-2<=c.2
def CW.mono(h:CW s cs)(hs:s<=s'):CW s' cs:=fun c hc=>⟨V4 (h c hc).1 hs,(h c hc).2⟩
def CW.push(h:CW s cs)(hv:-2<=v):CW s (cs++[(s,v)]):=fun c hc=>by
 rcases Vs.mp hc with z|z
 ·exact h c z
 ·rw[V8.mp z];exact⟨VB _,hv⟩
def CW.set(h:CW s cs):CW s (cs.set n ((cs.getD n (0,0)).1,(s:Int)-((cs.getD n (0,0)).1:Int))):=fun c hc=>by
 rcases List.mem_or_eq_of_mem_set hc with z|rfl
 ·exact h c z
 ·have:(cs.getD n (0,0)).1<=s:=by
   rw[VG];induction hn:cs[n]? using Option.casesOn with
   |none=>exact Wy _
   |some c=>exact(h c (VP hn)).1
  exact⟨this,by dsimp only;exact L_ this⟩
theorem gT:∀n,b9 g n=.ok e cs->∃i,i<=n/\g i=.ok e cs
 |0,h=>(i0 0 (VB _) h)
 |n+1,h=>by
  rw[jQ]at h
  split at h
  ·refine o1 (gT n h) fun i a b=>?_;exact i0 i (DZ a) b
  ·exact i0 (n+1) (VB _) h
theorem gS(hg:∀i,g i=true->s+i<L):∀f i,s+i<=L->s+cR g f i<=L
 |0,i,h=>h
 |f+1,i,h=>by
  rw[fi]
  split
  ·rename_i z;have:=hg i z;exact gS hg f (i+1) (L' this)
  ·exact h
theorem lK(hg:∀i,sg i=true->i<L):∀f s,s<=L->cw g sg f s=.ok e cs->∃i,s<=i/\i<=L/\g i=.ok e cs
 |0,s,_,h=>by injection h
 |f+1,s,hs,h=>by
  rw[eH]at h
  split at h
  ·split at h
   ·rename_i z;have:=hg s z;refine eD (lK hg f (s+1) (bI this) h) fun i a b c=>?_;exact i8 i (Mb a) b c
   ·injection h
  ·exact i8 s (VB _) hs h
theorem mh:∀f s n s',eJ T b e f s n=some s'->s<=s'/\s'<=T.length
 |0,s,n,s',h=>by injection h
 |f+1,s,n,s',h=>by
  rw[hJ]at h
  split at h
  ·injection h
  ·split at h
   ·split at h
    ·injection h;exact PB val_eq (by assumption)
    ·have:=mh f _ _ _ h;exact uv this
   ·split at h
    ·have:=mh f _ _ _ h;exact uv this
    ·have:=mh f _ _ _ h;exact uv this
def AI(h:lj T s b e=some s'):s<=s'/\s'<=T.length:=by
 unfold lj at h
 split at h
 ·injection h
 ·have:=mh _ _ _ _ h;exact uv this
set_option tactic.hygienic true in
theorem d7:∀(f s p:Nat) (cs:List cq) (e:Nat) (cs':List cq),s<=T.length->CW s cs->aG T P f s p cs=.ok e cs'->s<=e/\e<=T.length/\CW e cs'
 |0,s,p,cs,e,cs',hs,hc,h=>by injection h
 |f+1,s,p,cs,e,cs',hs,hc,h=>by
  rw[bW]at h
  split at h
  ·cases h;exact⟨VB _,hs,hc⟩
  split at h
  ·split at h
   ·injection h
   ·split at h
    ·exact d7 f _ _ _ _ _ hs (hc.push (by decide)) h
    ·exact d7 f _ _ _ _ _ hs (hc.push (by decide)) h
  split at h
  ·split at h
   ·injection h
   ·exact d7 f _ _ _ _ _ hs hc.set h
  split at h
  ·split at h
   ·injection h
   ·split at h
    ·injection h
    ·rename_i s' hb;have b1:=AI hb;have:=d7 f _ _ _ _ _ b1.2 (hc.mono b1.1) h;exact⟨by omega,this.2⟩
  split at h
  ·injection h
  ·rename_i en hce;have sl:∀i,ar T P i p en=true->i<T.length:=fun i hi=>gW hi;dsimp only at h;have key:∀i,s<=i->i<=T.length->∀q,aG T P f i q cs=.ok e cs'->s<=e/\e<=T.length/\CW e cs':=fun i h1 h2 q hq=>by
    have:=d7 f _ _ _ _ _ h2 (hc.mono h1) hq;exact⟨by omega,this.2⟩
   split at h
   ·refine o1 (gT _ h) fun i a b=>?_;have:=gS (g:=fun i=>ar T P (s+i) p en) (s:=s) (fun i hi=>sl _ hi) (T.length+1) 0 hs;exact key _ Ie (GA this a) _ b
   split at h
   ·split at h
    ·rename_i hsg;have:=sl _ hsg;refine o1 (gT _ h) fun i a b=>?_;have:=gS (g:=fun i=>ar T P (s+1+i) p en) (s:=s+1) (fun i hi=>sl _ hi) (T.length+1) 0 (GB this);exact key _ uw (GC this a) _ b
    ·injection h
   split at h
   ·refine eD (lK sl _ _ hs h) fun i a b c=>?_;exact key i a b _ c
   split at h
   ·split at h
    ·rename_i hsg;have:=sl _ hsg
     split at h
     ·exact key s (VB _) hs _ h
     ·exact key (s+1) lg (bI this) _ h
    ·exact key s (VB _) hs _ h
   split at h
   ·rename_i hsg;have:=sl _ hsg;exact key (s+1) lg (bI this) _ h
   ·injection h
set_option tactic.hygienic true in
theorem rK:∀(f b b' e:Nat) (cs:List cq),bu T P f b=.at b' e cs->b<=b'/\b'<=e/\e<=T.length/\CW e cs
 |0,b,b',e,cs,h=>by injection h
 |f+1,b,b',e,cs,h=>by
  rw[bK]at h
  split at h
  ·injection h
  ·rename_i hb
   split at h
   ·injection h
   ·have:=rK f _ _ _ _ h;exact⟨by omega,this.2⟩
   ·rename_i e' cs' hm;cases h;have:=d7 _ _ _ _ _ _ (ng hb) (fun c hc=>by cases hc) hm;exact⟨VB _,this⟩
def CW.caps(h:CW s cs):je T cs:=fun c hc=>(h c hc).2
end
section
variable{H H0 H1 H2:AH}{S:Nat->Prop}{m d ls ll ll0:Nat}{T P:List UInt8}{dep lev:Int}{gl:GL}{n k:Nat}{hn:Bool}{ct:CT}{cl:List Nat}{args:List AV}{Q:QE}{E:AH->Prop}
variable{cs:List cq}{dp:Nat}
def a9.fr(a:a9 H H1)(hd:H.length<=d)(b:Fr (fun i=>i=d) H1 H2):a9 H H2:=
 ⟨V4 a.len b.len,fun i o e _=>b.keep i o (a.keep i o e (fun z=>z)) fun z=>by have:=hZ e;exact Ai this z hd⟩
def mn(a:H[i]?=some (.cell v))(b:H[d]?=some (.dict es)):i≠d:=fun e=>by rw[e,b]at a;cases a
def pg(a:H[i]?=some (.clos c cl))(b:H[d]?=some (.dict es)):i≠d:=fun e=>by rw[e,b]at a;cases a
def HY(H:AH)(m d:Nat)(T P:List UInt8)(Q:QE)(E:AH->Prop):vZ->Prop
 |.err=>∀H',Fr (fun i=>i=d) H H'->E H'
 |.none=>∀H' dep lev ls ll,Fr (fun i=>i=d) H H'->M0 H' m d T P dep lev ls ll->Q .none H'
 |.at b' e cs=>∀H' ls ll t,Fr (fun i=>i=d) H H'->MS H' m d T P 0 ls ll cs->H'[t]?=some (.tup [.int b',.int e])->H.length<=t->Q (.ref t) H'
inductive FU(H:AH)(m d ea:Nat)(T P:List UInt8)(Q:QE)(E:AH->Prop)(n0:Nat)(loc1:aM)(H1:AH):Prop
 |mk (b' f ls ll:Nat)(dep lev:Int):Fr (fun i=>i=d) H H1->M0 H1 m d T P dep lev ls ll->lk 29 loc1=some (.int T.length)->lk 22 loc1=some (.int b')->lk 38 loc1=some (.bool false)->lk 39 loc1=some (.ref ea)->n0=T.length+3-b'->
  T.length+1<=f+b'->HY H m d T P Q E (bu T P f b')->FU H m d ea T P Q E n0 loc1 H1
def Dx(h:tK k hn args H Q E)(hk:k<=n+1):aj (Gm gl n) ct cl (k-1) hn eS ([29,22,38,39].zip args) H (rQ Q) (fun _=>E):=by
 obtain⟨m,d,b,cm,ea,T,P,dep,lev,ls,ll,rfl,M,hP,hcm,hea,h1,q⟩:=h;o_facts eS;refine i2 (FU H m d ea T P Q E) _ ⟨b,T.length+1,ls,ll,dep,lev,Fr.refl _,M,rfl,rfl,rfl,rfl,rfl,by exact Gj,by
  revert q
  induction bu T P (T.length+1) b using vZ.casesOn<;>exact id⟩ ?_
 have e1:=mn hcm M.d;have e2:=pg hea M.d;clear q M;rintro n0 loc1 Hx _ ⟨b,f,ls,ll,dep,lev,FX,M,l29,l22,l38,l39,rfl,hf,q⟩;have hcm:=FX.keep _ _ hcm e1;have hea:=FX.keep _ _ hea e2;rw[l29,l22];refine nv (fun hc=>?_) (fun hc=>?_)
 ·obtain⟨f,rfl⟩:∃f',f=f'+1:=(i4 (f-1) (Gw hf hc));rw[bK]at q;rw[if_neg (W8.mpr hc)]at q;o_facts gr;rw[l22,l39];refine⟨_,_,_,rfl,hea,by exact aZ hk,m,d,b,cm,T,P,dep,lev,ls,ll,rfl,rfl,M,hP,hcm,by exact GD h1,?_⟩;induction hm:aG T P (P.length+1) b 0 []using jh.casesOn with
  |err=>
   rw[hm]at q;exact fun H' F _=>(show∀H',Fr (fun i=>i=d) H H'->E H' from q) H' (FX.trans F)
  |fail=>
   rw[hm]at q;intro H' ls' ll' F M2 _;o_facts dB;refine bJ (fun h=>V2 h) (fun _=>?_);o_facts gu;rw[l38];refine bJ (fun h=>V2 h) (fun _=>?_);o_facts gv;rw[l22];exact aI (b:=1) ⟨T.length+3-(b+1),by exact Mc hc,b+1,f,ls',ll',0,_,FX.trans F,M2.m,aJ rfl l29,rfl,aJ rfl l38,aJ rfl l39,rfl,by exact kH hf,q⟩
  |ok e cs=>
   rw[hm]at q;intro H' ls' ll' F M2 _;o_facts dB;rw[l22];refine bJ (fun _=>?_) (fun h=>V2 h);refine⟨by show 2<=4096;decide,?_⟩;have F2:=FX.trans F;exact(show∀H' ls ll t,Fr (fun i=>i=d) H H'->MS H' m d T P 0 ls ll cs->H'[t]?=some (.tup [.int b,.int e])->H.length<=t->Q (.ref t) H' from q) _ ls' ll' H'.length (F2.trans (Fr.of (a9.app _ _))) (M2.ext (a9.app _ _)) (aB _ _) F2.len
 ·have:bu T P f b=.none:=by
   induction f using V3 with
   |zero=>rfl
   |succ f=>rw[bK];rw[if_pos hc]
  rw[this]at q;o_facts gw;exact(show∀H' dep lev ls ll,Fr (fun i=>i=d) H H'->M0 H' m d T P dep lev ls ll->Q .none H' from q) _ _ _ _ _ FX M
def aD.fr(h:aD H l sp)(hd:H[d]?=some (.dict es))(f:Fr (fun i=>i=d) H H1):aD H1 l sp:=by
 refine eD h fun ts a b c=>?_;refine i8 ts (f.keep _ _ a (fun e=>by rw[e,hd]at a;cases a)) b (fun i t x h1 h2=>?_);have:=c i t x h1 h2;exact f.keep _ _ this fun e=>by rw[e,hd]at this;cases this
def aD.ext(h:aD H l sp)(f:a9 H H1):aD H1 l sp:=by
 refine eD h fun ts a b c=>?_;exact i8 ts (f.keep _ _ a fun z=>z) b (fun i t x h1 h2=>f.keep _ _ (c i t x h1 h2) fun z=>z)
def mx(h:H[t]?=some (.tup [a,b]))(q:Q a H):qd gl (.ref t) (.int 0) H Q:=.sq _ _ _ rfl (.tu _ rfl h) (by decide) (by show 2<=4096;decide) rfl q
def qg(h:H[t]?=some (.tup [a,b]))(q:Q b H):qd gl (.ref t) (.int 1) H Q:=.sq _ _ _ rfl (.tu _ rfl h) (by decide) (by show 2<=4096;decide) rfl q
def yR(ha:H[l]?=some (.list a))(hb:H[r]?=some (.list b))(hz:a.length+b.length<=4096)(q:Q (.ref H.length) (H++[.list (a++b)])):nq .add (.ref l) (.ref r) H Q:=.rr _ _ rfl rfl rfl (yL.mk _ _ ha hb hz q)
def FO{l t b' e:Nat}(hk:k<=n)(h1:1<=k)(S:aD H l acc)(hz:acc.length<=30)(ht:H[t]?=some (.tup [.int b',.int e]))(l44:lk 44 loc=some (.ref l))(l46:lk 46 loc=some (.ref t))
  (hK:∀H' l',a9 H H'->aD H' l' (acc++[(b',e)])->K .next (st 22 (.int (behindN b' e:Nat)) (st 44 (.ref l') loc)) H'):aj (Gm gl n) ct cl k hn dR loc H K EK:=by
 o_facts dR;rw[l44,l46];refine⟨by show 1<=4096;decide,?_⟩;refine eD S fun ts a b c=>?_;have g1:(H++[AO.list [AV.ref t]])[l]?=some (.list (ts.map AV.ref)):=aQ a;have g2:(H++[AO.list [AV.ref t]])[H.length]?=some (.list [AV.ref t]):=aB _ _;refine yR g1 g2 (by simp;exact Md b hz) ?_;generalize hHa:H++[AO.list [AV.ref t]]=Ha at*;have x1:a9 H Ha:=hHa▸a9.app _ _;have x2:=x1.trans (a9.app Ha [.list (ts.map AV.ref++[AV.ref t])]);have ht2:=x2.keep _ _ ht fun z=>z;have gl2:(Ha++[AO.list (ts.map AV.ref++[AV.ref t])])[Ha.length]?=some (.list (ts.map AV.ref++[AV.ref t])):=aB _ _;generalize Ha++[AO.list (ts.map AV.ref++[AV.ref t])]=Hb at*;refine mx ht2 (qg ht2 (au hk ⟨b',e,rfl,h1,fun _=>?_⟩));refine da (by show 2<=4096;decide) ⟨rfl,by decide,?_⟩;have x3:=x2.trans (a9.app Hb [.tup [.ref Ha.length,.int (behindN b' e:Nat)]]);refine hK _ _ x3 (i8 (ts++[t]) ?_ (by simp[b]) (fun i t' x h1 h2=>?_))
 ·rw[Yq];exact aQ gl2
 ·rcases Xd i ts.length with z|z
  ·rw[VF z]at h1;rw[VF (by exact Me z b)]at h2;exact x3.keep _ _ (c i t' x h1 h2) fun z=>z
  ·have:i=ts.length:=by
    have:=(Vn.mp h1).1;simp at this;exact xF this z
   subst this;rw[Vm (VB _)]at h1;rw[Vm (by exact Ig b),b]at h2;simp at h1 h2;subst h1;subst h2;exact x3.keep _ _ ht fun z=>z
def CH(hk:k<=n)(h3:3<=k)(hT:T.length<=100)(hP:bP P)(q:∀H' d ls ll,a9 H H'->H.length<=d->MS H' H.length d T P 0 ls ll []->Q (.ref H.length) H'):
  QA (Gm gl n) k hn [.bytes T,.bytes P] H Q E:=by
 refine⟨by exact Mf h3,by show k-2<=n;exact Mg hk,H.length,H.length+1,T,P,rfl,?_,?_,hT,hP,by exact Mh h3,fun H' ls ll F M hl=>⟨rfl,fun _=>?_⟩⟩
 ·rw[Vm (by exact uu)];simp
 ·rw[Vm (by exact lg)];simp
 ·have x:a9 H (H++[.inst (H.length+1),.dict []]):=a9.app _ _;exact q H' _ ls ll (x.fr lg F) lg M
def T_(H:AH)(Q:QE)(E:AH->Prop):Option (List bR×Bool)->Prop
 |none=>∀H',a9 H H'->E H'
 |some (sp,odd)=>∀H' t l,a9 H H'->H'[t]?=some (.tup [.ref l,.bool odd])->aD H' l sp->Q (.ref t) H'
inductive xt(H:AH)(m d cm ea:Nat)(T P:List UInt8)(Q:QE)(E:AH->Prop)(n0:Nat)(loc1:aM)(H1:AH):Prop
 |mk (b f:Nat)(acc:List bR)(odd:Bool)(l ls ll:Nat)(dep lev:Int):a9 H H1->M0 H1 m d T P dep lev ls ll->H1[cm]?=some (.cell (some (.ref m)))->H1[ea]?=some (.clos 0 [cm])->aD H1 l acc->
  acc.length<=b->acc.length<=T.length+1->lk 8 loc1=some (.bytes T)->lk 42 loc1=some (.ref m)->lk 44 loc1=some (.ref l)->lk 22 loc1=some (.int b)->lk 45 loc1=some (.bool odd)->lk 39 loc1=some (.ref ea)->n0=T.length+3-b->T.length+2<=f+b->
  T_ H Q E (eF T P f b acc odd)->xt H m d cm ea T P Q E n0 loc1 H1
def w_(I:xt H m d cm ea T P Q E n0 loc H1)(hP:bP P)(hT:T.length<=20)(hd:H.length<=d)(h1:100<=k)(hk:k<=n+1)(kr:∀{v l h},Q v h->K (.ret v) l h)
  (kn:∀{n1 loc2 H2},n1<n0->xt H m d cm ea T P Q E n1 loc2 H2->K .next loc2 H2):aj (Gm gl n) ct cl (k-1) true fW loc H1 K (fun _=>E):=by
 obtain⟨b,f,acc,odd,l,ls,ll,dep,lev,X,M,hcm,hea,SA,hb,hz,l8,l42,l44,l22,l45,l39,rfl,hf,q⟩:=I;o_facts fW;rw[l8,l22,l39];refine len_bytes (dh hT) ?_;refine au (aZ hk) ⟨m,d,b,cm,ea,T,P,dep,lev,ls,ll,rfl,M,hP,hcm,hea,by exact Mi h1,?_⟩;have doneF:∀(H2:AH) (loc2:aM),Fr (fun i=>i=d) H1 H2->eF T P f b acc odd=some (acc,odd)->lk 44 loc2=some (.ref l)->lk 45 loc2=some (.bool odd)->lk 46 loc2=some .none->aj (Gm gl n) ct cl (k-1) true dQ loc2 H2 K (fun _=>E):=fun H2 loc2 x e k4 k5 k6=>by
  rw[e]at q;o_facts dQ;rw[k4,k5,k6];refine bJ (fun _=>?_) (fun h=>V2 h);exact⟨by show 2<=4096;decide,kr ((show∀H' t l,a9 H H'->H'[t]?=some (.tup [.ref l,.bool odd])->aD H' l acc->Q (.ref t) H' from q) _ _ l ((X.fr hd x).trans (a9.app _ _)) (aB _ _) ((SA.fr M.d x).ext (a9.app _ _)))⟩
 induction f using V3 with
 |zero=>
  have:bu T P (T.length+1) b=.none:=by rw[bK];rw[if_pos (by exact GE hf)]
  rw[this];exact fun H2 dep' lev' ls' ll' F M1 _=>doneF H2 _ F rfl l44 l45 iY
 |succ f=>
 induction hfi:bu T P (T.length+1) b using vZ.casesOn with
 |err=>
  rw[cz]at q;rw[hfi]at q;exact fun H' F _=>(show∀H',a9 H H'->E H' from q) H' (X.fr hd F)
 |none=>
  refine fun H2 dep' lev' ls' ll' F M1 _=>doneF H2 _ F ?_ l44 l45 iY;rw[cz];rw[hfi]
 |«at» b' e cs=>
  rw[cz]at q;rw[hfi]at q;dsimp only at q;clear doneF;refine QK (rK _ _ _ _ _ hfi) fun o1 o2 o3 o4=>?_;intro H2 ls' ll' t F M1 ht _ _;have X1:=X.fr hd F;have hcm1:=F.keep _ _ hcm (mn hcm M.d);have hea1:=F.keep _ _ hea (pg hea M.d);have SA1:=SA.fr M.d F;clear SA hcm hea X F M;have k8:=aJ (x:=46) (v:=.ref t) rfl l8;have k42:=aJ (x:=46) (v:=.ref t) rfl l42;have k44:=aJ (x:=46) (v:=.ref t) rfl l44;have k45:=aJ (x:=46) (v:=.ref t) rfl l45;have k39:=aJ (x:=46) (v:=.ref t) rfl l39;have k46:lk 46 (st 46 (.ref t) loc)=some (.ref t):=iY;clear l8 l42 l44 l22 l45 l39;generalize st 46 (AV.ref t) loc=loc at*;have bl:b'<=T.length:=by exact Gq o2 o3
  have bb:b<behindN b' e:=by unfold behindN;split<;>omega
  have cont:∀(loc':aM) (H3:AH) (EK:ES) (odd':Bool),odd'=(odd||fF cs)->a9 H2 H3->lk 8 loc'=some (.bytes T)->lk 42 loc'=some (.ref m)->lk 44 loc'=some (.ref l)->lk 45 loc'=some (.bool odd')->lk 39 loc'=some (.ref ea)->lk 46 loc'=some (.ref t)->
    aj (Gm gl n) ct cl (k-1) true dR loc' H3 K EK:=by
   intro loc' H3 EK odd' ho x k8 k42 k44 k45 k39 k46;refine FO (aZ hk) (GF h1) (SA1.ext x) (Mj hT hb o1 o2 o3) (x.keep _ _ ht fun z=>z) k44 k46 fun H4 l' x3 S3=>?_;have x4:=x.trans x3;refine kn (n1:=T.length+3-behindN b' e) (Mk bb o1 bl) ⟨behindN b' e,f,acc++[(b',e)],odd',l',ls',ll',0,_,X1.trans x4,M1.m.ext x4,x4.keep _ _ hcm1 (fun z=>z),x4.keep _ _ hea1 (fun z=>z),S3,by simp;exact Ml bb hb,by simp;exact Mm hb o1 bl,
    aJ rfl k8,aJ rfl k42,aJ rfl rfl,rfl,aJ rfl k45,aJ rfl k39,rfl,by exact kI hf bb,?_⟩
   rw[ho];exact q
  o_facts dQ;rw[k46];refine bJ (fun h=>V2 h) (fun _=>?_);o_facts kW;rw[k42,k46];refine⟨trivial,M1.m.inst (mx ht (qg ht ?_))⟩;refine au (aZ hk) ⟨m,d,b',e,T,P,0,ls',ll',cs,rfl,M1,o4.caps,by exact Mo h1,rfl,M1.len,?_⟩;induction ho:fF cs using Vu with
  |true=>
   rw[if_pos rfl];intro H3 x _;exact cont _ _ _ true (by rw[ho,Bool.or_true]) (x.trans (a9.app _ _)) k8 k42 k44 rfl k39 k46
  |false=>
   rw[if_neg V9];intro H3 v x _;exact cont _ _ _ odd (by rw[ho,YV]) x k8 k42 k44 k45 k39 k46
def DH(h:tS k hn args H Q E)(hk:k<=n+1):aj (Gm gl n) ct cl (k-1) hn jM ([8,9].zip args) H (rQ Q) (fun _=>E):=by
 obtain⟨T,P,rfl,hP,hT,rfl,h1,q⟩:=h;o_facts jM;refine CH (aZ hk) (Mp h1) (GG hT) hP fun Hi d ls ll xi hd M=>?_;refine⟨Wy _,?_⟩;have gl0:(Hi++[AO.list []])[Hi.length]?=some (.list ([].map AV.ref)):=aB _ _;have x1:=a9.app Hi [AO.list []];have M:=M.ext x1;have x1:=xi.trans x1;generalize Hi++[AO.list []]=Hl at*;refine da (by show 4<=4096;decide) ⟨rfl,by decide,?_⟩;have x2:=a9.app Hl [.tup [.ref H.length,.ref Hi.length,.int 0,.bool false]];have M:=M.ext x2;have gl0:=x2.keep _ _ gl0 fun z=>z;have x2:=x1.trans x2;generalize Hl++[AO.tup [.ref H.length,.ref Hi.length,.int 0,.bool false]]=Ht at*;o_facts kS;refine au (aZ hk) ⟨_,rfl,by exact GF h1,fun H3 cm ea x3 hcm hea hcl hel _=>?_⟩;have M:=M.ext x3;have gl0:=x3.keep _ _ gl0 fun z=>z;have x3:=x2.trans x3;clear x1 x2 xi;generalize hm:H.length=m at*;generalize Hi.length=l0 at*;have S0:aD H3 l0 []:=(i8 ([]) gl0 rfl (fun i t x h=>by cases h))
 clear gl0;o_facts kU;refine i2 (xt H m d cm ea T P Q E) _ (⟨0,T.length+2,[],false,l0,ls,ll,_,_,x3,M.m,hcm,hea,S0,by simp,by simp,rfl,rfl,rfl,rfl,rfl,rfl,rfl,by exact me,by
  revert q
  show _->T_ H Q E (spansN T P);rcases spansN T P with _|⟨_,_⟩<;>exact id⟩) ?_
 intro n0 loc1 Hx _ I;exact RM (w_ I hP hT (hm▸hd) (Mq h1) hk (fun h=>h) fun h I=>(i0 _ h I))
def fK{α:Type}{xs:List α}{a b:Nat}:(cut xs a b).length<=xs.length:=by
 exact V4 (List.length_take_le' _ _) (by rw[XJ];exact Nat.sub_le _ _)
def hU{Q:QE}(h:x.length+y.length<=4096)(q:Q (.bytes (x++y)) H):nq .add (.bytes x) (.bytes y) H Q:=.bb _ _ rfl rfl rfl h q
def m7{b:List UInt8}{x:Nat}{H:AH}{Q:QE}(hz:b.length<=4096)(q:Q (.bytes (cut b (min x b.length) b.length)) H):qR gl (.bytes b) (.int x) .none H Q:=.by x _ b ti rfl hz rfl q
theorem u_:∀(sp:List bR)(found:List UInt8)(a:Nat),(fh T sp found a).1.length<=found.length+sp.length*(2*T.length+2)
 |[],found,a=>Xl _ _
 |(b,e)::r,found,a=>by
  rw[Cu];refine V4 (u_ r _ _) ?_;have h1:(cut T (min a T.length) (min b T.length)).length<=T.length:=fK;have h2:(cut T (min b T.length) (min e T.length)).length<=T.length:=fK;simp only[VH,VT,Za,Nat.add_mul];exact Mr h1 h2
noncomputable def HQ:IS:=.seq (.assign (.tup [7,36]) (.tup (.cons (.bin .add (.bin .add (.bin .add (.bin .add (.loc 7) (.slc (.loc 8) (.loc 36) (.loc 22))) (.bytes [45])) (.slc (.loc 8) (.loc 22) (.loc 4))) (.bytes [37])) (.cons (.loc 4) .nil)))) .skip
theorem ya{Ha:AH}{ts:List Nat}(hT:T.length<=20)(hl:Ha[l]?=some (.list (ts.map AV.ref))):∀(ts':List Nat)(sp':List bR)(loc:aM)(Hc:AH)(found:List UInt8)(a:Nat)(K:QS),ts'.length=sp'.length->(∀(i t:Nat)(x:bR),ts'[i]?=some t->sp'[i]?=some x->Ha[t]?=some (.tup [.int x.1,.int x.2]))->a9 Ha Hc->found.length+sp'.length*(2*T.length+2)<=2000->
   lk 8 loc=some (.bytes T)->lk 44 loc=some (.ref l)->lk 7 loc=some (.bytes found)->lk 36 loc=some (.int a)->
   (∀loc' H',a9 Ha H'->lk 8 loc'=some (.bytes T)->lk 44 loc'=some (.ref l)->lk 7 loc'=some (.bytes (fh T sp' found a).1)->lk 36 loc'=some (.int (fh T sp' found a).2)->K .next loc' H')->
   rM l (ts.map AV.ref) 22 4 (fun loc1 H2 Q2=>aj (Gm gl n) ct cl (k-1) true HQ loc1 H2 Q2 (fun _ _=>False)) (ts'.map AV.ref) loc Hc K
 |[],sp',loc,Hc,found,a,K,hlen,hall,x,hb,l8,l44,l7,l36,hK=>by
  induction sp' using Vr with
  |cons=>injection hlen
  |nil=>exact hK loc Hc x l8 l44 l7 l36
 |t::ts',sp',loc,Hc,found,a,K,hlen,hall,x,hb,l8,l44,l7,l36,hK=>by
  induction sp' using Vr with
  |nil=>injection hlen
  |cons be sp'=>
  obtain⟨b,e⟩:=be;have ht:=x.keep _ _ (hall 0 t (b,e) rfl rfl) fun z=>z;have hlc:=x.keep _ _ hl fun z=>z;rw[VL];show mT _ _ _;refine⟨_,_,_,rfl,ht,?_⟩;have k8:=aJ (x:=4) (v:=.int e) rfl (aJ (x:=22) (v:=.int b) rfl l8);have k44:=aJ (x:=4) (v:=.int e) rfl (aJ (x:=22) (v:=.int b) rfl l44);have k7:=aJ (x:=4) (v:=.int e) rfl (aJ (x:=22) (v:=.int b) rfl l7);have k36:=aJ (x:=4) (v:=.int e) rfl (aJ (x:=22) (v:=.int b) rfl l36);have k22:lk 22 (st 4 (.int e) (st 22 (.int b) loc))=some (.int b):=aJ rfl iY;have k4:lk 4 (st 4 (.int e) (st 22 (.int b) loc))=some (.int e):=iY;clear l8 l44 l7 l36;generalize st 4 (AV.int ↑e) (st 22 (AV.int ↑b) loc)=loc at*;o_facts HQ;simp only[k8,k44,k7,k36,k22,k4];have h1:(cut T (min a T.length) (min b T.length)).length<=T.length:=fK;have h2:(cut T (min b T.length) (min e T.length)).length<=T.length:=fK;simp only[VT,Nat.add_mul]at hb;refine gY (dh hT) (hU (Ms hb h1) (hU (by simp;exact Mt hb h1) (gY (dh hT) (hU (by simp;exact Mu hb h1 h2) (hU (by simp;exact Mv hb h1 h2) ?_)))));refine da (by show 2<=4096;decide) ⟨rfl,by decide,?_⟩;refine⟨trivial,aQ hlc,?_⟩;exact ya hT hl ts' sp' _ _ (found++cut T (min a T.length) (min b T.length)++[45]++cut T (min b T.length) (min e T.length)++[37]) e K (by simpa using hlen) (fun i t' y a1 a2=>hall (i+1) t' y (by simpa using a1) (by simpa using a2)) (x.trans (a9.app _ _)) (by simp;exact Mw hb h1 h2)
   k8 k44 rfl rfl hK
def FL(h:yz k hn args H Q E)(hk:k<=n+1):aj (Gm gl n) ct cl (k-1) hn lG ([8,44].zip args) H (rQ Q) (fun _=>E):=by
 obtain⟨l,T,sp,rfl,⟨ts,ht1,ht2,ht3⟩,hsp,hT,rfl,h1,q⟩:=h;o_facts lG;refine da (by show 2<=4096;decide) ⟨rfl,by decide,?_⟩;have x0:=a9.app H [.tup [.bytes [],.int 0]];have hl:=x0.keep _ _ ht1 fun z=>z;have hts:=fun i t x a b=>x0.keep _ _ (ht3 i t x a b) fun z=>z;generalize H++[AO.tup [.bytes [],.int 0]]=Ha at*;dsimp only[WN,W7,XT,Zm];o_facts mF;refine⟨_,_,rfl,hl,trivial,by simp;exact Mx ht2 hsp,by decide,?_⟩;have h3:sp.length*(2*T.length+2)<=30*42:=Nat.mul_le_mul hsp (My hT);refine ya (k:=k) (cl:=cl) (ct:=ct) hT hl ts sp _ Ha [] 0 _ ht2 hts (Fr.refl _) ?_ rfl rfl rfl rfl ?_
 ·simp;exact Mz h3
 ·intro loc' H' x l8 l44 l7 l36;show aj _ _ _ _ _ ij _ _ _ _;o_facts ij;rw[l8,l44,l7,l36];have h1:(cut T (min (fh T sp [] 0).2 T.length) T.length).length<=T.length:=fK;have h2:=u_ (T:=T) sp [] 0;refine m7 (dh hT) (hU (by simp at h2;exact MA h3 hT h1 h2) ?_);have hl':=x.keep _ _ hl fun z=>z;refine .li _ _ rfl hl' (by simp;show _<=4096;exact GH ht2 hsp) ⟨by show 2<=4096;decide,?_⟩;rw[VI,ht2];exact q _ _ ((x0.trans x).trans (a9.app _ _)) (aB _ _)
end
section
noncomputable def jW:NS:=.seq (.ret (.a (.mkBytes (.loc 7)))) (.a .skip)
noncomputable def jV:NS:=.seq (.ite (.a (.and (.notNone (.loc 35)) (.cmp .gt (.len (.loc 7)) (.loc 35)))) (.seq (.ret (.a .none)) (.a .skip)) (.a .skip)) (.a .skip)
noncomputable def b_:NS:=.seq (.a (.augL 36 .add (.int 1))) jV
noncomputable def fo:NS:=.seq (.ite (.a (.cmp2 .le .le (.int 48) (.loc 37) (.int 57))) (.seq (.expr (.bext (.loc 7) (.a (.callv (.loc 34) (.cons (.bin .sub (.loc 37) (.int 48)) .nil))))) (.a .skip)) (.seq (.expr (.bapp (.loc 7) (.loc 37))) (.a .skip))) (.a .skip)
noncomputable def jU:NS:=.seq (.a (.assign (.loc 37) (.ite (.cmp .lt (.loc 36) (.len (.loc 33))) (.idx (.loc 33) (.loc 36)) (.int 0)))) fo
noncomputable def jT:NS:=.seq (.a (.augL 36 .add (.int 1))) jU
noncomputable def jS:NS:=.seq (.ite (.a (.cmp .eq (.loc 37) (.int 37))) jT (.seq (.expr (.bapp (.loc 7) (.loc 37))) (.a .skip))) b_
noncomputable def fk:NS:=.seq (.a (.assign (.loc 37) (.idx (.loc 33) (.loc 36)))) jS
noncomputable def jR:NS:=.seq (.while (.cmp .lt (.loc 36) (.len (.loc 33))) fk) jW
noncomputable def iy:NS:=.seq (.asgT [7,36] (.tupB (.cons (.int 0) .nil))) jR
noncomputable def iZ:NS:=.seq (.ret (.a (.tup (.cons (.mkBytes (.loc 7)) (.cons (.loc 25) .nil))))) (.a .skip)
noncomputable def er:NS:=.seq (.expr (.bext (.loc 7) (.a (.slc (.loc 8) (.loc 36) .none)))) iZ
noncomputable def dc:NS:=.seq (.ite (.a (.loc 38)) (.seq (.a .brk) (.a .skip)) (.a .skip)) (.a .skip)
noncomputable def j0:NS:=.seq (.a (.augL 36 .add (.int 1))) (.a .skip)
noncomputable def fD:NS:=.seq (.expr (.bapp (.loc 7) (.idx (.loc 8) (.loc 36)))) j0
noncomputable def fz:NS:=.seq (.ite (.a (.and (.notNone (.loc 4)) (.cmp .gt (.loc 4) (.loc 36)))) (.seq (.a (.assign (.loc 36) (.loc 4))) (.a .skip)) (.seq (.ite (.a (.cmp .lt (.loc 36) (.len (.loc 8)))) fD (.seq (.a .brk) (.a .skip))) (.a .skip))) dc
noncomputable def jZ:NS:=.seq (.expr (.bext (.loc 7) (.callv (.loc 40) (.cons (.loc 36) (.cons (.loc 4) .nil))))) (.a .skip)
noncomputable def jY:NS:=.seq (.a (.augL 25 .add (.int 1))) jZ
noncomputable def fw:NS:=.seq (.ite (.a (.notNone (.loc 4))) jY (.a .skip)) fz
noncomputable def ft:NS:=.seq (.a (.assign (.loc 4) (.callv (.loc 39) (.cons (.loc 36) .nil)))) fw
noncomputable def jX:NS:=.seq (.while (.cmp .lt (.loc 25) (.loc 35)) ft) er
noncomputable def iA:NS:=.seq (.asgT [7,36,25] (.tupB (.cons (.int 0) (.cons (.int 0) .nil)))) jX
noncomputable def lN:NS:=.seq (.ret (.call 36 (.cons (.cel 3) (.cons (.loc 34) .nil)))) (.a .skip)
noncomputable def fq:NS:=.seq (.a (.defc 34 2)) lN
noncomputable def qC:NS:=.seq (.tryR (.seq (.ret (.call 43 (.cons (.loc 8) (.cons (.loc 35) (.cons (.loc 38) (.cons (.call 315 (.cons (.loc 42) .nil)) (.cons (.call 322 (.cons (.loc 42) (.cons (.loc 33) .nil))) .nil))))))) (.a .skip))) (.a .skip)
noncomputable def qB:NS:=.seq (.a (.assign (.loc 42) (.mk (.cons (.loc 8) (.cons (.loc 9) .nil))))) qC
noncomputable def iz:NS:=.seq (.ret (.cmp .eq (.call 329 (.cons (.slc (.loc 8) (.cel 1) .none) (.cons (.loc 9) (.cons (.loc 33) (.cons (.int 99) (.cons (.bool false) .nil)))))) (.call 343 (.cons (.slc (.loc 8) (.cel 1) .none) (.cons (.loc 50) .nil))))) (.a .skip)
noncomputable def lQ:NS:=.seq (.a (.assignC 50 (.compP (.slc (.loc 44) (.loc 48) .none) 22 4 (.tup (.cons (.bin .sub (.loc 22) (.cel 1)) (.cons (.bin .sub (.loc 4) (.cel 1)) .nil)))))) iz
noncomputable def lP:NS:=.seq (.ite (.a (.cmp .gt (.cel 1) (.len (.loc 8)))) (.seq (.ret (.a (.cmp .eq (.slc (.loc 44) (.loc 48) .none) (.list .nil)))) (.a .skip)) (.a .skip)) lQ
noncomputable def lO:NS:=.seq (.a (.assign (.cel 1) (.ite (.cmp .gt (.loc 48) (.int 0)) (.call 300 (.cons (.idx (.idx (.loc 44) (.bin .sub (.loc 48) (.int 1))) (.int 0)) (.cons (.idx (.idx (.loc 44) (.bin .sub (.loc 48) (.int 1))) (.int 1)) .nil))) (.int 0)))) lP
noncomputable def nZ:NS:=.seq (.ite (.cmp .ne (.call 329 (.cons (.loc 8) (.cons (.loc 9) (.cons (.loc 33) (.cons (.loc 48) (.cons (.bool false) .nil)))))) (.call 343 (.cons (.loc 8) (.cons (.slc (.loc 44) .none (.loc 48)) .nil)))) (.seq (.ret (.a (.bool false))) (.a .skip)) (.a .skip)) lO
noncomputable def nY:NS:=.seq (.a (.assign (.loc 48) (.call 308 (.cons (.cel 0) (.cons (.bin .add (.len (.loc 44)) (.int 1)) .nil))))) nZ
noncomputable def ki:NS:=.seq (.ite (.cmp .ne (.call 329 (.cons (.loc 8) (.cons (.bin .add (.bin .add (.bytes [40]) (.loc 9)) (.bytes [41])) (.cons (.bytes [37,49]) (.cons (.int 99) (.cons (.bool false) .nil)))))) (.ite (.loc 45) .none (.tup (.cons (.loc 8) (.cons (.len (.loc 44)) .nil))))) (.seq (.ret (.a (.bool false))) (.a .skip)) (.a .skip)) nY
noncomputable def nX:NS:=.seq (.ite (.cmp .ne (.call 329 (.cons (.loc 8) (.cons (.loc 9) (.cons (.loc 33) (.cons (.int 99) (.cons (.bool true) .nil)))))) (.call 343 (.cons (.loc 8) (.cons (.compT (.slc (.loc 44) .none (.int 1)) 46 (.cmp .eq (.idx (.loc 46) (.int 0)) (.int 0)) (.loc 46)) .nil)))) (.seq (.ret (.a (.bool false))) (.a .skip)) (.a .skip)) ki
noncomputable def nW:NS:=.seq (.ite (.cmp .ne (.call 329 (.cons (.loc 8) (.cons (.loc 9) (.cons (.loc 33) (.cons (.int 99) (.cons (.bool false) .nil)))))) (.call 343 (.cons (.loc 8) (.cons (.loc 44) .nil)))) (.seq (.ret (.a (.bool false))) (.a .skip)) (.a .skip)) nX
noncomputable def nV:NS:=.seq (.tryL (.seq (.a (.assign (.tup [44,45]) (.call 336 (.cons (.loc 8) (.cons (.loc 9) .nil))))) (.a .skip)) (.seq (.ret (.isN (.call 329 (.cons (.loc 8) (.cons (.loc 9) (.cons (.loc 33) (.cons (.int 99) (.cons (.bool false) .nil)))))))) (.a .skip))) nW
noncomputable def nU:NS:=.seq (.a (.assign (.loc 33) (.bytes [45,37,48,37,37]))) nV
noncomputable def nT:NS:=.seq (.a (.assign (.loc 9) (.join (.compR (.bin .sub (.int 4) (.call 308 (.cons (.cel 0) (.cons (.int 4) .nil)))) 51 (.idx (.glob 301) (.call 308 (.cons (.cel 0) (.cons (.int 16) .nil)))))))) nU
noncomputable def nS:NS:=.seq (.a (.assign (.loc 8) (.mkBytes (.compR (.bin .sub (.int 5) (.call 308 (.cons (.cel 0) (.cons (.int 6) .nil)))) 51 (.idx (.bytes [97,98,40,97,41,98]) (.call 308 (.cons (.cel 0) (.cons (.int 6) .nil)))))))) nT
noncomputable def mS:NS:=.seq (.a (.assign (.cel 0) (.dict 8 (.slc (.loc 47) .none (.int 20)) 9 (.int 0)))) nS
noncomputable def qu(c:UInt8):Bool:=decide (48<=c.toNat)&&decide (c.toNat<=57)
noncomputable def bq(hv:Nat->Option AV):List UInt8->Option (List UInt8)
 |[]=>some []
 |[c]=>if c=37 then some [0]else some [c]
 |c::c2::r=>if c=37 then
   (if qu c2 then(match hv (c2.toNat-48)with|some (.bytes x)=>(bq hv r).map (x++·)|_=>none)else(bq hv r).map (c2::·))
  else(bq hv (c2::r)).map (c::·)
def rI:bq hv [c]=(if c=37 then some [0]else some [c]):=rfl
def dw:bq hv (c::c2::r)=(if c=37 then
   (if qu c2 then(match hv (c2.toNat-48)with|some (.bytes x)=>(bq hv r).map (x++·)|_=>none)else(bq hv r).map (c2::·))
  else(bq hv (c2::r)).map (c::·)):=rfl
noncomputable def cL(hv:Nat->Option AV):List UInt8->Prop
 |[]=>True
 |[c]=>True
 |c::c2::r=>if c=37 then(qu c2=true->∀v,hv (c2.toNat-48)=some v->∃x,v=.bytes x/\x.length<=20)/\cL hv r else cL hv (c2::r)
def dv:cL hv (c::c2::r)=(if c=37 then(qu c2=true->∀v,hv (c2.toNat-48)=some v->∃x,v=.bytes x/\x.length<=20)/\cL hv r else cL hv (c2::r)):=rfl
noncomputable def iK(T:List UInt8)(cs:List cq)(news:List UInt8)(b e:Nat):Option (List UInt8):=bq (fun n=>eu T cs n b e) news
def cG(T:List UInt8)(cs:List cq)(news:List UInt8)(b e:Nat):Prop:=cL (fun n=>eu T cs n b e) news
noncomputable def eE(T:List UInt8)(a:Nat)(found:List UInt8)(many:Nat):Option (List UInt8×Nat):=some (found++cut T (min a T.length) T.length,many)
noncomputable def cS(T P news:List UInt8)(most:Nat)(bound:Bool):Nat->Nat->Nat->List UInt8->Option (List UInt8×Nat)
 |0,a,many,found=>eE T a found many
 |f+1,a,many,found=>if most<=many then eE T a found many else
  match aG T P (P.length+1) a 0 []with
  |.err=>none
  |.fail=>if a<T.length then(if bound then eE T (a+1) (found++[(T.getD a 0)]) many else cS T P news most bound f (a+1) many (found++[(T.getD a 0)]))else eE T a found many
  |.ok e cs=>match iK T cs news a e with
   |none=>none
   |some x=>if a<e then(if bound then eE T e (found++x) (many+1)else cS T P news most bound f e (many+1) (found++x))
    else if a<T.length then(if bound then eE T (a+1) (found++x++[(T.getD a 0)]) (many+1)else cS T P news most bound f (a+1) (many+1) (found++x++[(T.getD a 0)]))
    else eE T a (found++x) (many+1)
def gU:cS T P news most bound (f+1) a many found=(if most<=many then eE T a found many else
  match aG T P (P.length+1) a 0 []with
  |.err=>none
  |.fail=>if a<T.length then(if bound then eE T (a+1) (found++[(T.getD a 0)]) many else cS T P news most bound f (a+1) many (found++[(T.getD a 0)]))else eE T a found many
  |.ok e cs=>match iK T cs news a e with
   |none=>none
   |some x=>if a<e then(if bound then eE T e (found++x) (many+1)else cS T P news most bound f e (many+1) (found++x))
    else if a<T.length then(if bound then eE T (a+1) (found++x++[(T.getD a 0)]) (many+1)else cS T P news most bound f (a+1) (many+1) (found++x++[(T.getD a 0)]))
    else eE T a (found++x) (many+1)):=rfl
noncomputable def replN(T P news:List UInt8)(most:Nat)(bound:Bool):Option (List UInt8×Nat):=cS T P news most bound (T.length+2) 0 0 []
inductive kq(k:Nat)(hn:Bool)(args:List AV)(H:AH)(Q:QE)(E:AH->Prop):Prop
 |mk (hc cm ce cb m d b e:Nat)(T P:List UInt8)(dep ls ll:Nat)(cs:List cq)(news:List UInt8):args=[.bytes news,.ref hc]->H[hc]?=some (.clos 2 [cm,ce,cb])->MS H m d T P dep ls ll cs->je T cs->H[cb]?=some (.cell (some (.int b)))->H[ce]?=some (.cell (some (.int e)))->H[cm]?=some (.cell (some (.ref m)))->9<=k->news.length<=5->cG T cs news b e->(match iK T cs news b e with|none=>∀H',a9 H H'->E H'|some x=>∀H',a9 H H'->Q (.bytes x) H')->kq k hn args H Q E
inductive yt(cl:List Nat)(k:Nat)(hn:Bool)(args:List AV)(H:AH)(Q:QE)(E:AH->Prop):Prop
 |mk (cn cm m d b e:Nat)(T P:List UInt8)(dep ls ll:Nat)(cs:List cq)(news:List UInt8):args=[.int b,.int e]->cl=[cn,cm]->MS H m d T P dep ls ll cs->je T cs->H[cn]?=some (.cell (some (.bytes news)))->H[cm]?=some (.cell (some (.ref m)))->12<=k->news.length<=5->cG T cs news b e->(match iK T cs news b e with|none=>∀H',a9 H H'->E H'|some x=>∀H',a9 H H'->Q (.bytes x) H')->yt cl k hn args H Q E
inductive ku(k:Nat)(hn:Bool)(args:List AV)(H:AH)(Q:QE)(E:AH->Prop):Prop
 |mk (ea ga cm cn cm' m d most:Nat)(bound:Bool)(T P news:List UInt8)(dep lev:Int)(ls ll:Nat):args=[.bytes T,.int most,.bool bound,.ref ea,.ref ga]->M0 H m d T P dep lev ls ll->bP P->H[ea]?=some (.clos 0 [cm])->H[cm]?=some (.cell (some (.ref m)))->H[ga]?=some (.clos 1 [cn,cm'])->H[cm']?=some (.cell (some (.ref m)))->H[cn]?=some (.cell (some (.bytes news)))->90<=k->news.length<=5->T.length<=20->(∀a e cs,a<=T.length->aG T P (P.length+1) a 0 []=.ok e cs->cG T cs news a e)->(match replN T P news most bound with
 |none=>∀H',Fr (fun i=>i=d) H H'->E H'
 |some (x,n)=>∀H' t,Fr (fun i=>i=d) H H'->H'[t]?=some (.tup [.bytes x,.int n])->Q (.ref t) H')->ku k hn args H Q E
inductive yy(k:Nat)(hn:Bool)(args:List AV)(H:AH)(Q:QE)(E:AH->Prop):Prop
 |mk (most:Nat)(bound:Bool)(T P news:List UInt8):args=[.bytes T,.bytes P,.bytes news,.int most,.bool bound]->bP P->95<=k->news.length<=5->T.length<=20->(∀a e cs,a<=T.length->aG T P (P.length+1) a 0 []=.ok e cs->cG T cs news a e)->(match replN T P news most bound with
 |none=>∀H',a9 H H'->Q .none H'
 |some (x,n)=>∀H' t,a9 H H'->H'[t]?=some (.tup [.bytes x,.int n])->Q (.ref t) H')->yy k hn args H Q E
def yH:Nat->iH
 |36=>kq|43=>ku|329=>yy
 |_=>fun _ _ _ _ _ _=>False
def t7:Nat->List Nat->iH
 |1,cl=>yt cl
 |_,_=>fun _ _ _ _ _ _=>False
noncomputable def fQ(gl:GL)(n:Nat):cM where
 fn f k hn args H Q E:=k<=n/\yH f k hn args H Q E
 clos c cl k hn args H Q E:=k<=n/\t7 c cl k hn args H Q E
 init:=141
 gl:=gl
def pP(hk:k<=n)(h:yH f k hn vs H (fun v H1=>bB H H1->Q v H1) (fun H1=>bB H H1->E H1)):cF (fQ gl n) k hn f vs H Q E:=⟨hk,h⟩
end
section
variable{H H0 H1 H2:AH}{m d ls ll:Nat}{T P:List UInt8}{dep lev:Int}{gl:GL}{n k:Nat}{hn:Bool}{ct:CT}{cl:List Nat}{args:List AV}{Q:QE}{E:AH->Prop}
variable{cs:List cq}{dp:Nat}
def pa(h:H[j]?=some (.barr x))(hz:x.length+b.length<=4096)(q:Q .none (H.set j (.barr (x++b)))):rx (.ref j) (.bytes b) H Q:=⟨_,_,rfl,h,_,rfl,hz,q⟩
def o_(h:H[j]?=some (.barr x))(hz:x.length+1<=4096)(q:Q .none (H.set j (.barr (x++[c])))):rt (.ref j) (.int (c.toNat:Int)) H Q:=by
 refine⟨_,_,rfl,h,_,rfl,Ws _,?_,hz,?_⟩
 ·have:=c.toNat_lt;omega
 ·rw[WH];have:c.toNat.toUInt8=c:=by simp
  rw[this];exact q
def cV(h:H[j]?=some (.barr x)):lI (.ref j) H:=⟨_,_,rfl,h⟩
def rG(h:news.drop i=c::r):i<news.length/\atP news i=c.toNat/\news.drop (i+1)=r:=by
 have hi:i<news.length:=by
  rcases Xd i news.length with z|z
  ·exact z
  ·rw[W2 z]at h;injection h
 rw[WK hi]at h;cases h;exact⟨hi,by unfold atP;rw[Vw hi],rfl⟩
def oQ(H:AH)(Q:QE)(E:AH->Prop)(found:List UInt8):Option (List UInt8)->Prop
 |none=>∀H',a9 H H'->E H'
 |some x=>∀H',a9 H H'->Q (.bytes (found++x)) H'
def oQ.app(q:oQ H Q E found (o.map (y++·))):oQ H Q E (found++y) o:=by
 induction o using Option.casesOn with
 |none=>exact q
 |some x=>intro H' x';rw[Wn];exact q H' x'
inductive sy(H:AH)(fb hc:Nat)(news:List UInt8)(hv:Nat->Option AV)(Q:QE)(E:AH->Prop)(n0:Nat)(loc1:aM)(H1:AH):Prop
 |mk (i:Nat)(found:List UInt8):a9 H H1->H1[fb]?=some (.barr found)->lk 33 loc1=some (.bytes news)->lk 34 loc1=some (.ref hc)->lk 35 loc1=some .none->lk 36 loc1=some (.int i)->lk 7 loc1=some (.ref fb)->n0=news.length+2-i->
  i<=news.length+1->found.length<=20*i->cL hv (news.drop i)->oQ H Q E found (bq hv (news.drop i))->sy H fb hc news hv Q E n0 loc1 H1
def Cg{fb hc i j n0:Nat}(kn:∀{n1 loc2 H2},n1<n0->sy H fb hc news hv Q E n1 loc2 H2->K .next loc2 H2)(x:a9 H H1)(hB:H1[fb]?=some (.barr found))
  (l33:lk 33 loc=some (.bytes news))(l34:lk 34 loc=some (.ref hc))(l35:lk 35 loc=some .none)(l36:lk 36 loc=some (.int j))(l7:lk 7 loc=some (.ref fb))(hn0:n0=news.length+2-i)(hij:i<=j)(hj:j<=news.length)(hf:found.length<=20*(j+1))
  (fine:cL hv (news.drop (j+1)))(q:oQ H Q E found (bq hv (news.drop (j+1)))):aA (Gm gl n) (fQ gl n) ct cl k hn b_ loc H1 K EK:=by
 o_facts b_;rw[l36];refine bj (b:=1) ?_;o_facts jV;rw[l35];refine bJ (fun h=>V2 h) (fun _=>?_);refine u4 rfl ?_;exact kn (n1:=news.length+2-(j+1)) (MG hn0 hij hj) ⟨j+1,found,x,hB,aJ rfl l33,aJ rfl l34,aJ rfl l35,rfl,aJ rfl l7,rfl,by exact Il hj,hf,fine,q⟩
def Ci{fb hc cm ce cb b e n0:Nat}(hn5:news.length<=5)(hfb:H.length<=fb)(M:MS H m d T P dp ls ll cs)(hcs:je T cs)(hhc:H[hc]?=some (.clos 2 [cm,ce,cb]))(hb:H[cb]?=some (.cell (some (.int b))))(he:H[ce]?=some (.cell (some (.int e))))(hm:H[cm]?=some (.cell (some (.ref m))))
  (h1:9<=k)(hk:k<=n+1) (kn:∀{n1 loc2 H2},n1<n0->sy H fb hc news (fun n=>eu T cs n b e) Q E n1 loc2 H2->K .next loc2 H2):∀{i:Nat}{found:List UInt8},a9 H H1->H1[fb]?=some (.barr found)->lk 33 loc=some (.bytes news)->lk 34 loc=some (.ref hc)->lk 35 loc=some .none->lk 36 loc=some (.int i)->lk 7 loc=some (.ref fb)->n0=news.length+2-i->
  i<news.length->found.length<=20*i->cL (fun n=>eu T cs n b e) (news.drop i)->oQ H Q E found (bq (fun n=>eu T cs n b e) (news.drop i))->aA (Gm gl n) (fQ gl n) ct cl (k-1) hn fk loc H1 K (fun _=>E):=by
 intro i found X hB l33 l34 l35 l36 l7 hn0 hlt hf fine q;o_facts fk;rw[l33,l36];refine a_ (uy hn5) hlt ?_;have set_ok:∀{H':AH} {y:List UInt8},a9 H H'->H'[fb]?=some (.barr found)->a9 H (H'.set fb (.barr y))/\(H'.set fb (.barr y))[fb]?=some (.barr y):=fun{H' y} x hb'=>⟨x.fr (d:=fb) hfb Fr.set,dy hb'⟩
 obtain⟨c,r,hcr⟩:∃c r,news.drop i=c::r:=(i5 _ _ (WK hlt));refine qX (rG hcr) fun _ hc1 hr=>?_;rw[hcr]at q fine;rw[hc1];have k33:=aJ (x:=37) (v:=.int c.toNat) rfl l33;have k34:=aJ (x:=37) (v:=.int c.toNat) rfl l34;have k35:=aJ (x:=37) (v:=.int c.toNat) rfl l35;have k36:=aJ (x:=37) (v:=.int c.toNat) rfl l36;have k7:=aJ (x:=37) (v:=.int c.toNat) rfl l7;have k37:lk 37 (st 37 (.int c.toNat) loc)=some (.int c.toNat):=iY;clear l33 l34 l35 l36 l7;generalize st 37 (AV.int ↑c.toNat) loc=loc at*;o_facts jS;rw[k37,k7];refine bG (b:=37) (fun h37=>?_) (fun h37=>?_)
 ·obtain rfl:c=37:=UInt8.toNat_inj.mp h37;clear k37;o_facts jT;rw[k36];refine bj (b:=1) ?_;have l33:=aJ (x:=36) (v:=.int ((i+1:Nat):Int)) rfl k33;have l34:=aJ (x:=36) (v:=.int ((i+1:Nat):Int)) rfl k34;have l35:=aJ (x:=36) (v:=.int ((i+1:Nat):Int)) rfl k35;have l7:=aJ (x:=36) (v:=.int ((i+1:Nat):Int)) rfl k7;have l36:lk 36 (st 36 (.int ((i+1:Nat):Int)) loc)=some (.int ((i+1:Nat):Int)):=iY;clear k33 k34 k35 k36 k7;generalize st 36 (AV.int ↑(i+1)) loc=loc at*;o_facts jU;rw[l33,l36];refine len_bytes (uy hn5) ?_;induction r using Vr with
  |nil=>
   have hlen:news.length=i+1:=by
    have:=congrArg List.length hr;simp at this;exact MH this hlt
   refine BC (by simp[bk];exact MI hlen) ?_;o_facts fo;rw[l7];refine kB (u3 (fun h=>by simp[bk]at h) (fun _=>?_));refine⟨cV hB,?_⟩;refine kY (set_ok (y:=found++[0]) X hB) fun y1 y2=>?_;refine o_ (c:=0) hB (MJ hlen hf hn5) ?_;refine Cg kn y1 y2 l33 l34 l35 l36 l7 hn0 lg (MK hlen) (by simp;exact GP hf) ?_ ?_
   ·rw[W2 (by exact GQ hlen)];trivial
   ·rw[W2 (by exact GQ hlen)];exact oQ.app (y:=[0]) (o:=some []) q
  |cons c2 r=>
   refine qX (rG hr) fun hlt2 hc2 hr2=>?_;refine xO (by simp[bk];exact ML hlt2) ?_;refine a_ (p:=i+1) (uy hn5) hlt2 ?_;rw[hc2];rw[dw]at q;rw[dv]at fine;rw[if_pos rfl]at q fine;have dig:qu c2=(decide (48<=c2.toNat)&&decide (c2.toNat<=57)):=rfl;have k33:=aJ (x:=37) (v:=.int c2.toNat) rfl l33;have k34:=aJ (x:=37) (v:=.int c2.toNat) rfl l34;have k35:=aJ (x:=37) (v:=.int c2.toNat) rfl l35;have k36:=aJ (x:=37) (v:=.int c2.toNat) rfl l36;have k7:=aJ (x:=37) (v:=.int c2.toNat) rfl l7;have k37:lk 37 (st 37 (.int c2.toNat) loc)=some (.int c2.toNat):=iY;clear l33 l34 l35 l36 l7;generalize st 37 (AV.int ↑c2.toNat) loc=loc at*;have fin2:∀{H':AH} {y:List UInt8},a9 H H'->H'[fb]?=some (.barr (found++y))->y.length<=20->oQ H Q E (found++y) (bq (fun n=>eu T cs n b e) r)->aA (Gm gl n) (fQ gl n) ct cl (k-1) hn b_ loc H' K (fun _=>E):=by
    intro H' y x hy hyl hq;refine Cg (j:=i+1) kn x hy k33 k34 k35 k36 k7 hn0 lg (WR hlt2) (by simp;exact MM hf hyl) ?_ ?_
    ·rw[hr2];exact fine.2
    ·rw[hr2];exact hq
   have notdig:qu c2=false->rt (.ref fb) (.int (c2.toNat:Int)) H1 (fun _ H2=>aA (Gm gl n) (fQ gl n) ct cl (k-1) hn b_ loc H2 K (fun _=>E)):=by
    intro hd;rw[hd,if_neg V9]at q;refine kY (set_ok (y:=found++[c2]) X hB) fun y1 y2=>?_;exact o_ hB (MN hlt2 hf hn5) (fin2 y1 y2 (by simp) (oQ.app (y:=[c2]) q))
   o_facts fo;rw[k37,k7,k34];refine nv (a:=48) (fun ha=>?_) (fun ha=>?_)
   ·refine nv (b:=57) (fun hb2=>?_) (fun hb2=>?_)
    ·have hd:qu c2=true:=by rw[dig];simp[ha,hb2]
     rw[hd,if_pos rfl]at q;refine⟨cV hB,cK ?_⟩;have e2:((c2.toNat:Int)-48)=((c2.toNat-48:Nat):Int):=by exact MP ha
     rw[e2];refine⟨_,_,_,rfl,X.keep _ _ hhc (fun z=>z),by exact aZ hk,m,d,b,e,c2.toNat-48,cb,ce,cm,T,P,dp,ls,ll,cs,rfl,rfl,M.ext X,hcs,X.keep _ _ hb (fun z=>z),X.keep _ _ he (fun z=>z),X.keep _ _ hm (fun z=>z),by exact MQ h1,?_⟩;induction hv:eu T cs (c2.toNat-48) b e using Option.casesOn with
     |none=>
      rw[hv]at q;exact fun H' x _=>(show∀H',a9 H H'->E H' from q) H' (X.trans x)
     |some v=>
      obtain⟨x,rfl,hxl⟩:=fine.1 hd v hv;rw[hv]at q;intro H' xx _;have X':=X.trans xx;have hB':=xx.keep _ _ hB fun z=>z;obtain⟨y1,y2⟩:=set_ok (y:=found++x) X' hB';exact pa hB' (MR hlt2 hf hxl hn5) (fin2 y1 y2 hxl (oQ.app q))
    ·exact⟨cV hB,notdig (by rw[dig];simp;exact MT hb2)⟩
   ·exact⟨cV hB,notdig (by rw[dig];simp;exact MU ha)⟩
 ·have h37:c≠37:=fun z=>h37 (by rw[z];rfl);refine⟨cV hB,?_⟩;refine kY (set_ok (y:=found++[c]) X hB) fun y1 y2=>?_;refine o_ hB (MV hlt hf hn5) ?_;refine Cg kn y1 y2 k33 k34 k35 k36 k7 hn0 (VB i) (Aj hlt) (by simp;exact MW hf) ?_ ?_
  ·rw[hr];induction r using Vr with
   |nil=>trivial
   |cons c2 r=>rw[dv]at fine;rw[if_neg h37]at fine;exact fine
  ·rw[hr];refine oQ.app ?_;induction r using Vr with
   |nil=>
    rw[rI]at q;rw[if_neg h37]at q;exact q
   |cons c2 r=>
    rw[dw]at q;rw[if_neg h37]at q;exact q
def vS(h:kq k hn args H Q E)(hk:k<=n+1):aA (Gm gl n) (fQ gl n) ct cl (k-1) hn iy ([33,34,35].zip (args++[.none])) H (rQ Q) (fun _=>E):=by
 obtain⟨hc,cm,ce,cb,m,d,b,e,T,P,dp,ls,ll,cs,news,rfl,hhc,M,hcs,hb,he,hm,h1,hn5,fine,q⟩:=h;o_facts iy;refine da (vs:=[.ref H.length,.int 0]) (by show 2<=4096;decide) ⟨rfl,by decide,?_⟩;have x0:a9 H (H++[.barr []]++[AO.tup [.ref H.length,.int 0]]):=(a9.app _ _).trans (a9.app _ _);have b0:(H++[.barr []]++[AO.tup [.ref H.length,.int 0]])[H.length]?=some (.barr []):=aQ (aB _ _);generalize(H++[.barr []]++[AO.tup [.ref H.length,.int 0]])=Ha at*;obtain⟨fb,hfb⟩:∃fb,H.length=fb:=(i4 _ rfl)
 rw[hfb]at b0⊢;o_facts jR;refine i2 (sy H fb hc news (fun n=>eu T cs n b e) Q E) _ ⟨0,[],x0,b0,rfl,rfl,rfl,rfl,rfl,rfl,by exact MZ,Wy _,fine,by
  revert q
  show _->oQ H Q E [] (iK T cs news b e);induction iK T cs news b e using Option.casesOn<;>exact id⟩ ?_
 clear q fine x0 b0;rintro n0 loc1 Hx _ ⟨i,found,X,hB,l33,l34,l35,l36,l7,rfl,hi,hf,fine,q⟩;rw[l33,l36];refine len_bytes (uy hn5) ?_;refine jq (fun hlt=>?_) (fun hge=>?_)
 ·exact Ci hn5 (Nat.le_of_eq hfb) M hcs hhc hb he hm h1 hk (fun h I=>(i0 _ h I)) X hB l33 l34 l35 l36 l7 rfl hlt hf fine q
 ·rw[W2 hge]at q;o_facts jW;rw[l7];refine .ba _ _ rfl hB (by show _<=4096;exact M7 hf hi hn5) ?_;have:=q Hx X;rw[VW]at this;exact this
def FH(h:yt cl k hn args H Q E)(hk:k<=n+1):cU H.length [.c 0,.c 1] args [] (H++VJ 2 (.cell none))
  (fun loc H'=>bB H H'->aA (Gm gl n) (fQ gl n) dj ([H.length+0,H.length+1]++cl.reverse) (k-1) hn fq loc H' (rQ Q) (fun _=>E)):=by
 obtain⟨cn,cm,m,d,b,e,T,P,dp,ls,ll,cs,news,rfl,rfl,M,hcs,hn',hm',h1,hn5,fine,q⟩:=h;simp only[pd,pb,pe];intro _;have eh:((H++VJ 2 (AO.cell none)).set (H.length+0) (.cell (some (.int b)))).set (H.length+1) (.cell (some (.int e)))=H++[.cell (some (.int b)),.cell (some (.int e))]:=by simp[VJ]
 rw[eh];have x0:=a9.app H [.cell (some (.int b)),.cell (some (.int e))];have c0:(H++[AO.cell (some (.int b)),.cell (some (.int e))])[H.length+0]?=some (.cell (some (.int b))):=by rw[Vm (by exact Aq)];simp
 have c1:(H++[AO.cell (some (.int b)),.cell (some (.int e))])[H.length+1]?=some (.cell (some (.int e))):=by rw[Vm (by exact lg)];simp
 generalize H++[AO.cell (some (.int b)),.cell (some (.int e))]=Ha at*;have x1:=a9.app Ha [AO.clos 2 [cm,H.length+1,H.length+0]];have x2:=x0.trans x1;have hcn:=x2.keep _ _ hn' fun z=>z;have hcm:=x2.keep _ _ hm' fun z=>z;have k0:=x1.keep _ _ c0 fun z=>z;have k1:=x1.keep _ _ c1 fun z=>z;show aA (Gm gl n) (fQ gl n) dj [H.length+0,H.length+1,cm,cn] (k-1) hn fq [] Ha (rQ Q) (fun _=>E);o_facts fq;show aA (Gm gl n) (fQ gl n) dj [H.length+0,H.length+1,cm,cn] (k-1) hn lN [(34,.ref Ha.length)] (Ha++[AO.clos 2 [cm,H.length+1,H.length+0]]) (rQ Q) (fun _=>E);o_facts lN;refine fJ hcn (pP (aZ hk) ⟨Ha.length,cm,H.length+1,H.length+0,m,d,b,e,T,P,dp,ls,ll,cs,news,rfl,aB _ _,M.ext x2,hcs,k0,k1,hcm,by exact M8 h1,hn5,fine,?_⟩);induction hg:iK T cs news b e using Option.casesOn with
 |none=>rw[hg]at q;exact fun H' x _=>q H' (x2.trans x)
 |some y=>rw[hg]at q;exact fun H' x _=>q H' (x2.trans x)
set_option tactic.hygienic true in
theorem hW:∀(news:List UInt8) (x:List UInt8),cL hv news->bq hv news=some x->x.length<=20*news.length
 |[],x,_,h=>by(injection h with h;subst h);simp
 |[c],x,_,h=>by
  rw[rI]at h
  split at h<;>(cases h;simp)
 |c::c2::r,x,fine,h=>by
  rw[dw]at h;rw[dv]at fine
  split at h
  ·rename_i hc;rw[if_pos hc]at fine
   split at h
   ·rename_i hd
    split at h
    ·rename_i y hy;refine o7 x (VK.mp h) fun x' hx'=>?_;have:=hW r x' fine.2 hx';refine o1 (fine.1 hd _ hy) fun y' hy' hl=>?_;(injection hy' with hy';subst hy');simp;exact M9 this hl
    ·cases h
   ·refine o7 x (VK.mp h) fun x' hx'=>?_;have:=hW r x' fine.2 hx';simp;exact GP this
  ·rename_i hc;rw[if_neg hc]at fine;refine o7 x (VK.mp h) fun x' hx'=>?_;have:=hW (c2::r) x' fine hx';simp at this⊢;exact M_ this
def UE(a:Nat):atP T a=(T.getD a 0).toNat:=by
 unfold atP;rw[VG];induction T[a]? using Option.casesOn<;>rfl
def PU(h:H[fb]?=some (.barr found))(hz:found.length+x.length<=4096)(q:Q .none (H.set fb (.barr (found++x)))):rx (.ref fb) (.bytes x) H Q:=pa h hz q
def pE(H:AH)(d:Nat)(Q:QE)(E:AH->Prop):Option (List UInt8×Nat)->Prop
 |none=>∀H',Fr (fun i=>i=d) H H'->E H'
 |some (x,n)=>∀H' t,Fr (fun i=>i=d) H H'->H'[t]?=some (.tup [.bytes x,.int n])->Q (.ref t) H'
structure RL(T:List UInt8)(most:Nat)(bound:Bool)(ea ga fb a many:Nat)(loc:aM):Prop where
 l8:lk 8 loc=some (.bytes T)
 l35:lk 35 loc=some (.int most)
 l38:lk 38 loc=some (.bool bound)
 l39:lk 39 loc=some (.ref ea)
 l40:lk 40 loc=some (.ref ga)
 l36:lk 36 loc=some (.int a)
 l25:lk 25 loc=some (.int many)
 l7:lk 7 loc=some (.ref fb)
section
variable{most ea ga fb a many a':Nat}{bound:Bool}{loc:aM}(h:RL T most bound ea ga fb a many loc)
include h
def RL.s4:RL T most bound ea ga fb a many (st 4 v loc):=⟨aJ rfl h.l8,aJ rfl h.l35,aJ rfl h.l38,aJ rfl h.l39,aJ rfl h.l40,aJ rfl h.l36,aJ rfl h.l25,aJ rfl h.l7⟩
def RL.s36:RL T most bound ea ga fb a' many (st 36 (.int a') loc):=⟨aJ rfl h.l8,aJ rfl h.l35,aJ rfl h.l38,aJ rfl h.l39,aJ rfl h.l40,rfl,aJ rfl h.l25,aJ rfl h.l7⟩
def RL.s25:RL T most bound ea ga fb a a' (st 25 (.int a') loc):=⟨aJ rfl h.l8,aJ rfl h.l35,aJ rfl h.l38,aJ rfl h.l39,aJ rfl h.l40,aJ rfl h.l36,rfl,aJ rfl h.l7⟩
end
inductive sA(H:AH)(m d fb:Nat)(T P found:List UInt8)(H1:AH):Prop
 |mk (dep lev:Int)(ls ll:Nat):Fr (fun i=>i=d) H H1->M0 H1 m d T P dep lev ls ll->H1[fb]?=some (.barr found)->H.length<=fb->sA H m d fb T P found H1
def sA.b(h:sA H m d fb T P found H1):H1[fb]?=some (.barr found):=by cases h;assumption
def sA.f(h:sA H m d fb T P found H1):Fr (fun i=>i=d) H H1:=by cases h;assumption
def sA.z(h:sA H m d fb T P found H1):T.length<=100:=by cases h with|mk _ _ _ _ _ M _ _=>exact M.t
def sA.put(h:sA H m d fb T P found H1):sA H m d fb T P x (H1.set fb (.barr x)):=by
 obtain⟨dep,lev,ls,ll,F,M,hB,hl⟩:=h;refine⟨dep,lev,ls,ll,⟨by rw[WB];exact F.len,fun i o e z=>by rw[aV (WO (Nat.lt_of_lt_of_le (hZ e) hl))];exact F.keep i o e z⟩,⟨?_,?_,M.t,M.p⟩,dy hB,hl⟩
 ·rw[aV (fun z=>by rw[←z,M.i]at hB;cases hB)];exact M.i
 ·rw[aV (fun z=>by rw[←z,M.d]at hB;cases hB)];exact M.d
inductive H9(H:AH)(m d fb ea ga most:Nat)(bound:Bool)(T P news:List UInt8)(Q:QE)(E:AH->Prop)(n0:Nat)(loc1:aM)(H1:AH):Prop
 |mk (a many f:Nat)(found:List UInt8):sA H m d fb T P found H1->RL T most bound ea ga fb a many loc1->n0=T.length+1-a->a<=T.length->T.length+2<=f+a->found.length<=101*a->
  pE H d Q E (cS T P news most bound f a many found)->H9 H m d fb ea ga most bound T P news Q E n0 loc1 H1
def yo(S:sA H m d fb T P found H1)(hf:found.length<=3000)(L:RL T most bound ea ga fb a many loc)(q:pE H d Q E (eE T a found many)):
  aA (Gm gl n) (fQ gl n) ct cl (k-1) hn er loc H1 (rQ Q) (fun _=>E):=by
 have hz:=S.z;have hc:(cut T (min a T.length) T.length).length<=T.length:=fK;o_facts er;rw[L.l7,L.l8,L.l36];refine⟨cV S.b,m7 (kF hz) (pa S.b (GR hz hf hc) ?_)⟩;have S':=S.put (x:=found++cut T (min a T.length) T.length);generalize H1.set fb (.barr (found++cut T (min a T.length) T.length))=H2 at*;o_facts iZ;rw[L.l7,L.l25];refine .ba _ _ rfl S'.b (by rw[VH];show _<=4096;exact GR hz hf hc) ⟨by show 2<=4096;decide,?_⟩;exact(show∀H' t,Fr (fun i=>i=d) H H'->H'[t]?=some (.tup [.bytes (found++cut T (min a T.length) T.length),.int many])->Q (.ref t) H' from q) _ _ (S'.f.trans (Fr.of (a9.app _ _))) (aB _ _)
structure RK(H:AH)(m d fb ea ga most:Nat)(bound:Bool)(T P news:List UInt8)(Q:QE)(E:AH->Prop)(n0:Nat)(K:QS):Prop where
 n:∀{n1 loc2 H2},n1<n0->H9 H m d fb ea ga most bound T P news Q E n1 loc2 H2->K .next loc2 H2
 b:∀{loc2 H2 a many found},sA H m d fb T P found H2->found.length<=3000->RL T most bound ea ga fb a many loc2->pE H d Q E (eE T a found many)->K .brk loc2 H2
section
variable{loc:aM}{most ea ga fb a0 a many f:Nat}{bound:Bool}{news found:List UInt8}{K:QS}
def C4(hz:T.length<=20)(X:RK H m d fb ea ga most bound T P news Q E (T.length+1-a0) K)(S:sA H m d fb T P found H1)(L:RL T most bound ea ga fb a many loc)(h0:a0<a)(ha:a<=T.length)(hf:T.length+2<=f+a)(hfl:found.length<=101*a)
  (q:pE H d Q E (if bound then eE T a found many else cS T P news most bound f a many found)):aA (Gm gl n) (fQ gl n) ct cl k hn dc loc H1 K (fun _=>E):=by
 o_facts dc;rw[L.l38];refine bJ (fun hb=>?_) (fun hb=>?_)
 ·rw[if_pos hb]at q;exact X.b S (Aw hfl hz ha) L q
 ·rw[if_neg (by rw[hb];decide)]at q;exact X.n (Na h0 ha) ⟨a,many,f,found,S,L,rfl,ha,hf,hfl,q⟩
def C3(hz:T.length<=20)(X:RK H m d fb ea ga most bound T P news Q E (T.length+1-a) K)(kx:∀{l h},aA (Gm gl n) (fQ gl n) ct cl k hn dc l h K (fun _=>E)->Kx .next l h)(S:sA H m d fb T P found H1)(L:RL T most bound ea ga fb a many loc)(hl:a<T.length)(hf:T.length+2<=f+(a+1))(hfl:found.length+1<=101*(a+1))
  (q:pE H d Q E (if bound then eE T (a+1) (found++[T.getD a 0]) many else cS T P news most bound f (a+1) many (found++[T.getD a 0]))):aA (Gm gl n) (fQ gl n) ct cl k hn fD loc H1 Kx (fun _=>E):=by
 o_facts fD;rw[L.l7,L.l8,L.l36];refine⟨cV S.b,a_ (dh hz) hl ?_⟩;rw[UE a];refine o_ S.b (Nb hfl hl hz) ?_;o_facts j0;rw[L.l36];exact bj (b:=1) (kx (C4 hz X S.put L.s36 (Yk _) hl hf (by simp;exact Nc hfl) q))
end
def zB(hP:bP P)(hz:T.length<=20)(hn5:news.length<=5)(X:RK H m d fb ea ga most bound T P news Q E (T.length+1-a) K)(hd:∃es,H[d]?=some (.dict es))
  (hea:H[ea]?=some (.clos 0 [cm]))(hcm:H[cm]?=some (.cell (some (.ref m))))(hga:H[ga]?=some (.clos 1 [cn,cm']))(hcm':H[cm']?=some (.cell (some (.ref m))))(hcn:H[cn]?=some (.cell (some (.bytes news)))) (fine:∀a e cs,a<=T.length->aG T P (P.length+1) a 0 []=.ok e cs->cG T cs news a e)
  (S:sA H m d fb T P found H1)(L:RL T most bound ea ga fb a many loc)(ha:a<=T.length)(hf:T.length+2<=f+1+a)(hfl:found.length<=101*a)(h1:90<=k)(hk:k<=n+1)(hlt:many<most)
  (q:pE H d Q E (cS T P news most bound (f+1) a many found)):aA (Gm gl n) (fQ gl n) ct cl (k-1) hn ft loc H1 K (fun _=>E):=by
 refine o8 hd fun es hd=>?_;have d3:=mn hcm' hd;have d4:=pg hga hd;have d5:=mn hcn hd;have hcm:=S.f.keep _ _ hcm (mn hcm hd);have hea:=S.f.keep _ _ hea (pg hea hd);rw[gU]at q;rw[if_neg (Nat.not_le.mpr hlt)]at q;o_facts ft;rw[L.l39,L.l36];obtain⟨dep,lev,ls,ll,F,M,hB,hfb⟩:=S;have hbd:fb≠d:=fun z=>by rw[z,M.d]at hB;cases hB
 refine⟨_,_,_,rfl,hea,by exact aZ hk,m,d,a,cm,T,P,dep,lev,ls,ll,rfl,rfl,M,hP,hcm,by exact GD h1,?_⟩;induction hm:aG T P (P.length+1) a 0 []using jh.casesOn with
 |err=>
  rw[hm]at q;exact fun H' F' _=>(show∀H',Fr (fun i=>i=d) H H'->E H' from q) H' (F.trans F')
 |fail=>
  rw[hm]at q;dsimp only at q;intro H' ls' ll' F' M' _;have S2:sA H m d fb T P found H':=⟨_,_,_,_,F.trans F',M'.m,F'.keep _ _ hB hbd,hfb⟩
  have L4:=L.s4 (v:=.none);have k4:lk 4 (st 4 AV.none loc)=some .none:=iY;generalize st 4 AV.none loc=loc at*;o_facts fw;rw[k4];refine bJ (fun h=>V2 h) (fun _=>?_);o_facts fz;rw[k4,L4.l36,L4.l8];refine bJ (fun h=>V2 h) (fun _=>?_);refine u4 rfl ?_;refine len_bytes (dh hz) ?_;refine jq (fun hl=>?_) (fun hl=>?_)
  ·rw[if_pos hl]at q;exact C3 hz X (fun h=>h) S2 L4 hl (di hf) (Nd hfl) q
  ·rw[if_neg (W8.mpr hl)]at q;exact X.b S2 (Aw hfl hz ha) L4 q
 |ok e cs=>
  rw[hm]at q;dsimp only at q;refine qX (d7 _ _ _ _ _ _ ha (fun c hc=>by cases hc) hm) fun g1 g2 g3=>?_;have fine:=fine a e cs ha hm;intro H' ls' ll' F' M' _;have F2:=F.trans F';have hB2:=F'.keep _ _ hB hbd;have L4:=L.s4 (v:=.int e);have k4:lk 4 (st 4 (AV.int e) loc)=some (.int e):=iY;generalize st 4 (AV.int e) loc=loc at*;o_facts fw;rw[k4];refine bJ (fun _=>?_) (fun h=>V2 h);o_facts jY;rw[L4.l25];refine bj (b:=1) ?_;have L5:=L4.s25 (a':=many+1);have k4:lk 4 (st 25 (AV.int (many+1:Nat)) loc)=some (.int e):=aJ rfl k4;generalize st 25 (AV.int (many+1:Nat)) loc=loc at*;o_facts jZ;rw[L5.l7,L5.l40,L5.l36,k4];refine⟨cV hB2,?_⟩;refine⟨_,_,_,rfl,F2.keep _ _ hga d4,by exact aZ hk,cn,cm',m,d,a,e,T,P,0,ls',ll',cs,news,rfl,rfl,M',g3.caps,F2.keep _ _ hcn d5,F2.keep _ _ hcm' d3,by exact Nf h1,hn5,fine,?_⟩;induction hg:iK T cs news a e using Option.casesOn with
  |none=>
   rw[hg]at q;exact fun H3 x _=>(show∀H',Fr (fun i=>i=d) H H'->E H' from q) H3 (F2.trans (Fr.of x))
  |some x=>
  rw[hg]at q;dsimp only at q;have hxl:=hW _ _ fine hg;intro H3 xx _;have S3:sA H m d fb T P found H3:=⟨_,_,_,_,F2.trans (Fr.of xx),(M'.ext xx).m,xx.keep _ _ hB2 fun z=>z,hfb⟩
  refine pa S3.b (Ng hfl hxl hz hn5 g1 g2) ?_;have S4:=S3.put (x:=found++x);have hl4:(found++x).length<=101*a+100:=by rw[VH];exact Nh hfl hxl hn5
  generalize H3.set fb (.barr (found++x))=H4 at*;generalize found++x=found at*;o_facts fz;rw[k4,L5.l36,L5.l8];refine bJ (fun _=>?_) (fun h=>V2 h);refine wg (fun hae=>?_) (fun hae=>?_)
  ·rw[if_pos hae]at q;exact C4 hz X S4 L5.s36 hae g2 (kI hf hae) (Ni hae hl4) q
  ·rw[if_neg (W8.mpr hae)]at q;refine len_bytes (dh hz) ?_;refine jq (fun hl=>?_) (fun hl=>?_)
   ·rw[if_pos hl]at q;exact C3 hz X (fun h=>h) S4 L5 hl (di hf) (Nj hl4) q
   ·rw[if_neg (W8.mpr hl)]at q;exact X.b S4 (Nk hl4 hz ha) L5 q
def vT(h:ku k hn args H Q E)(hk:k<=n+1):aA (Gm gl n) (fQ gl n) ct cl (k-1) hn iA ([8,35,38,39,40].zip args) H (rQ Q) (fun _=>E):=by
 obtain⟨ea,ga,cm,cn,cm',m,d,most,bound,T,P,news,dep,lev,ls,ll,rfl,M,hP,hea,hcm,hga,hcm',hcn,h1,hn5,hT,fine,q⟩:=h;o_facts iA;refine da (vs:=[.ref H.length,.int 0,.int 0]) (by show 3<=4096;decide) ⟨rfl,by decide,?_⟩;have x0:a9 H (H++[.barr []]++[AO.tup [.ref H.length,.int 0,.int 0]]):=(a9.app _ _).trans (a9.app _ _);have S0:sA H m d H.length T P [] (H++[.barr []]++[AO.tup [.ref H.length,.int 0,.int 0]]):=⟨_,_,_,_,Fr.of x0,M.ext x0,aQ (aB _ _),VB _⟩
 generalize(H++[.barr []]++[AO.tup [.ref H.length,.int 0,.int 0]])=Ha at*;o_facts jX;refine i2 (H9 H m d H.length ea ga most bound T P news Q E) _ (⟨0,0,T.length+2,[],S0,⟨rfl,rfl,rfl,rfl,rfl,rfl,rfl,rfl⟩,rfl,Wy _,VB _,Wy _,by
  revert q
  show _->pE H d Q E (replN T P news most bound);rcases replN T P news most bound with _|⟨_,_⟩<;>exact id⟩) ?_
 clear q S0 x0;rintro n0 loc1 Hx _ ⟨a,many,f,found,S,L,rfl,ha,hf,hfl,q⟩;obtain⟨f,rfl⟩:∃f',f=f'+1:=(i4 (f-1) (Nl hf ha))
 rw[L.l25,L.l35];refine jq (fun hlt=>?_) (fun hlt=>?_)
 ·exact zB hP hT hn5 ⟨fun h I=>(i0 _ h I),fun S hf L q=>yo S hf L q⟩ (i4 _ M.d) hea hcm hga hcm' hcn fine S L ha hf hfl h1 hk hlt q
 ·rw[gU]at q;rw[if_pos hlt]at q;exact yo S (Aw hfl hT ha) L q
end
section
variable{H H0 H1 H2:AH}{m d ls ll:Nat}{T P:List UInt8}{dep lev:Int}{gl:GL}{n k:Nat}{hn:Bool}{ct:CT}{cl:List Nat}{args:List AV}{Q:QE}{E:AH->Prop}
def FM(h:yy k hn args H Q E)(hk:k<=n+1):aA (Gm gl n) (fQ gl n) ct cl (k-1) hn qB ([8,9,33,35,38].zip args) H (rQ Q) (fun _=>E):=by
 obtain⟨most,bound,T,P,news,rfl,hP,h1,hn5,hT,fine,q⟩:=h;o_facts qB;refine CH (aZ hk) (Nm h1) (GG hT) hP fun Hi d ls ll xi hd M=>?_;have hm0:H.length<=d:=hd;generalize hm:H.length=m at*;o_facts qC;refine au (aZ hk) ⟨m,rfl,by exact GS h1,fun H3 cm ea x3 hcm hea _ _ _=>?_⟩;refine au (aZ hk) ⟨m,news,rfl,by exact GS h1,fun H4 cm' cn ga x4 hcm' hcn hga _ _ _ _=>?_⟩;have M4:=(M.ext x3).ext x4;have X4:a9 H H4:=(xi.trans x3).trans x4;refine pP (aZ hk) ⟨ea,ga,cm,cn,cm',m,d,most,bound,T,P,news,_,_,ls,ll,rfl,M4.m,hP,x4.keep _ _ hea (fun z=>z),x4.keep _ _ hcm (fun z=>z),hga,hcm',hcn,by exact Nn h1,hn5,hT,fine,?_⟩;induction hr:replN T P news most bound using Option.casesOn with
 |none=>
  rw[hr]at q;exact fun H' F _=>q _ (X4.fr (GT hm hd) F)
 |some y=>
  rw[hr]at q;exact fun H' t F ht _=>q H' t (X4.fr (GT hm hd) F) ht
end
section
variable{T P:List UInt8}
noncomputable abbrev att(T P:List UInt8)(a:Nat):jh:=aG T P (P.length+1) a 0 []
noncomputable def bY(T P:List UInt8):Nat->Nat->Option (List bR×Bool)
 |0,_=>some ([],false)
 |f+1,a=>if T.length<a then some ([],false)else match att T P a with
  |.err=>none
  |.fail=>bY T P f (a+1)
  |.ok e cs=>(bY T P f (behindN a e)).map fun x=>((a,e)::x.1,fF cs||x.2)
def a8:bY T P (f+1) a=(if T.length<a then some ([],false)else match att T P a with
  |.err=>none
  |.fail=>bY T P f (a+1)
  |.ok e cs=>(bY T P f (behindN a e)).map fun x=>((a,e)::x.1,fF cs||x.2)):=rfl
def ka(b e:Nat)(h:b<=e):b<behindN b e:=by unfold behindN;split<;>omega
def jl(ha:a<=T.length)(h:att T P a=.ok e cs):a<=e/\e<=T.length/\CW e cs:=d7 _ _ _ _ _ _ ha (fun c hc=>by cases hc) h
theorem om:∀(f g b:Nat),T.length+1<=f+b->T.length+1<=g+b->bu T P f b=bu T P g b
 |0,0,_,_,_=>rfl
 |0,g+1,b,h,_=>by rw[bK,if_pos (by exact xH h)];rfl
 |f+1,0,b,_,h=>by rw[bK,if_pos (by exact xH h)];rfl
 |f+1,g+1,b,h1,h2=>by
  rw[bK,bK]
  split
  ·rfl
  ·rw[om f g (b+1) (kH h1) (kH h2)]
def wA(hb:b<=T.length)(h:att T P b=.fail):bu T P (T.length+1) b=bu T P (T.length+1) (b+1):=by
 rw[show bu T P (T.length+1) b=bu T P T.length (b+1) by
  conv=>lhs;rw[bK]
  rw[if_neg (by exact uk hb)];show(match att T P b with|.err=>vZ.err|.fail=>bu T P T.length (b+1)|.ok e cs=>.at b e cs)=_;rw[h]]
 exact om _ _ _ Nt Nu
theorem lU:∀(F f b:Nat)(acc:List bR)(odd:Bool),T.length+2<=F+b->T.length+2<=f+b->eF T P f b acc odd=(bY T P F b).map fun x=>(acc++x.1,odd||x.2)
 |0,f,b,acc,odd,hF,hf=>by
  have hb:T.length<b:=by exact GE hF
  have:bu T P (T.length+1) b=.none:=by rw[bK];rw[if_pos hb]
  induction f using V3 with
  |zero=>exact congrArg some (Prod.ext (VW _).symm (YV _).symm)
  |succ f=>rw[cz,this];exact congrArg some (Prod.ext (VW _).symm (YV _).symm)
 |F+1,f,b,acc,odd,hF,hf=>by
  by_cases hb:T.length<b
  ·have:bu T P (T.length+1) b=.none:=by rw[bK];rw[if_pos hb]
   have e:bY T P (F+1) b=some ([],false):=by rw[a8];rw[if_pos hb]
   rw[e];induction f using V3 with
   |zero=>exact congrArg some (Prod.ext (VW _).symm (YV _).symm)
   |succ f=>rw[cz];rw[this];simp
  ·obtain⟨f,rfl⟩:∃f',f=f'+1:=⟨f-1,by exact Nv hf hb⟩;rw[a8];rw[if_neg hb];induction hA:att T P b using jh.casesOn with
   |err=>
    have:bu T P (T.length+1) b=.err:=by
     rw[bK];rw[if_neg hb];show(match att T P b with|.err=>vZ.err|.fail=>bu T P T.length (b+1)|.ok e cs=>.at b e cs)=_;rw[hA]
    rw[cz];rw[this];rfl
   |fail=>
    have e1:=wA (by exact ng hb) hA;have:eF T P (f+1) b acc odd=eF T P (f+1) (b+1) acc odd:=by rw[cz,cz,e1]
    rw[this];exact lU F (f+1) (b+1) acc odd (di hF) (Nw hf)
   |ok e cs=>
    have:bu T P (T.length+1) b=.at b e cs:=by
     rw[bK];rw[if_neg hb];show(match att T P b with|.err=>vZ.err|.fail=>bu T P T.length (b+1)|.ok e cs=>.at b e cs)=_;rw[hA]
    have g:=ka b e (jl (ng hb) hA).1;rw[cz];rw[this];dsimp only;rw[lU F f (behindN b e) _ _ (kI hF g) (kI hf g)];induction bY T P F (behindN b e)using Option.casesOn with
    |none=>rfl
    |some x=>simp[Bool.or_assoc]
def bM:spansN T P=bY T P (T.length+2) 0:=by
 unfold spansN;rw[lU (T.length+2) _ _ _ _ (by exact me) (by exact me)];induction bY T P (T.length+2) 0 using Option.casesOn with
 |none=>rfl
 |some x=>simp
noncomputable def ui(T:List UInt8)(sp:List bR)(found:List UInt8)(a:Nat):List UInt8:=(fh T sp found a).1++cut T (min (fh T sp found a).2 T.length) T.length
def r7(sp:List bR):mO T sp=ui T sp [] 0:=rfl
def lY(found:List UInt8)(a:Nat):ui T [] found a=found++cut T (min a T.length) T.length:=rfl
def lX(b e:Nat)(r:List bR)(found:List UInt8)(a:Nat):ui T ((b,e)::r) found a=ui T r (found++cut T (min a T.length) (min b T.length)++[45]++cut T (min b T.length) (min e T.length)++[37]) e:=rfl
def ph(ha:a<T.length)(hb:a<b)(hl:b<=T.length):cut T a b=T.getD a 0::cut T (a+1) b:=by
 unfold cut;rw[WK ha,show b-a=(b-(a+1))+1 by exact Sn hb,List.take_succ_cons,VG,Vw ha];rfl
def pY:cut T a a=[]:=by unfold cut;simp
def Q3:cut T T.length b=[]:=by unfold cut;simp
def lZ(ha:a<T.length)(h:∀x,sp.head?=some x->a<x.1/\x.1<=T.length):ui T sp (found++[T.getD a 0]) (a+1)=ui T sp found a:=by
 induction sp using Vr with
 |nil=>
  rw[lY,lY,WJ (show a+1<=T.length from ha),WJ (WR ha),ph ha ha (VB _)];simp
 |cons x r=>
  obtain⟨b,e⟩:=x;refine kY (h (b,e) rfl) fun h1 h2=>?_;dsimp only at h1 h2
  rewrite [lX,lX,WJ (show a+1<=T.length from ha),WJ (WR ha),WJ h2,ph ha h1 h2]
  simp
set_option tactic.hygienic true in
def n9:bY T P f a=some (sp,o)->∀x,sp.head?=some x->a<=x.1/\x.1<=T.length:=by
 induction f generalizing a with
 |zero=>intro h x hx;cases h;cases hx
 |succ f ih=>
  intro h x hx;rw[a8]at h
  split at h
  ·cases h;cases hx
  ·split at h
   ·cases h
   ·have:=ih h x hx;exact uv this
   ·rename_i hb e cs hA;refine o1 (VK.mp h) fun y hy hz=>?_;(injection hz with hz;subst hz);(injection hx with hx;subst hx);dsimp only;exact PC (by assumption)
noncomputable abbrev N1:List UInt8:=[45,37,48,37,37]
noncomputable abbrev N2:List UInt8:=[37,49]
def sV:iK T cs N1 b e=some ([45]++cut T (min b T.length) (min e T.length)++[37]):=by
 unfold iK;show(bq _ [45,37,48,37,37])=_;rw[dw];rw[if_neg (by decide)];rw[dw];rw[if_pos rfl,if_pos (by decide)];show((match eu T cs 0 b e with|some (.bytes x)=>(bq (fun n=>eu T cs n b e) [37,37]).map (x++·)|_=>none)).map (45::·)=_;rw[show eu T cs 0 b e=some (.bytes (cut T (min b T.length) (min e T.length)))from rfl];dsimp only;have:bq (fun n=>eu T cs n b e) [37,37]=some [37]:=by
  rw[dw];rw[if_pos rfl,if_neg (by decide)];rfl
 rw[this];simp
theorem kj:∀(F f a many:Nat)(found:List UInt8)(sp:List bR)(o:Bool),a<=T.length->T.length+2<=F+a->T.length+2<=f+a->bY T P F a=some (sp,o)->
  cS T P N1 most false f a many found=some (ui T (sp.take (most-many)) found a,many+min (most-many) sp.length)
 |0,f,a,many,found,sp,o,ha,hF,hf,h=>by exact(rl hF ha).elim
 |F+1,0,a,many,found,sp,o,ha,hF,hf,h=>by exact(rl hf ha).elim
 |F+1,f+1,a,many,found,sp,o,ha,hF,hf,h=>by
  rw[gU];by_cases hm:most<=many
  ·rw[if_pos hm,show most-many=0 by exact Ny hm];simp[eE,lY]
  rw[if_neg hm];rw[a8]at h;rw[if_neg (by exact uk ha)]at h;show(match att T P a with|.err=>none|.fail=>_|.ok e cs=>_)=_;induction hA:att T P a using jh.casesOn with
  |err=>rw[hA]at h;cases h
  |fail=>
   rw[hA]at h;dsimp only at h⊢
   split
   ·rename_i hl;rw[if_neg V9,kj F f (a+1) many _ sp o (bI hl) (di hF) (di hf) h,lZ hl];intro x hx;have:=n9 h x (by
     induction hs:sp using Vr with
     |nil=>rw[hs]at hx;simp at hx
     |cons y r=>
      rw[hs]at hx;obtain⟨m,hm⟩:∃m,most-many=m+1:=⟨most-many-1,by exact GU hm⟩
      rw[hm]at hx
      simpa using hx)
    exact GW this
   ·have:sp=[]:=by
     induction F using V3 with
     |zero=>cases h;rfl
     |succ F=>rw[a8]at h;rw[if_pos (by exact rq (by assumption))]at h;cases h;rfl
    subst this;simp[eE,lY]
  |ok e cs=>
   rw[hA]at h;refine qX (jl ha hA) fun g1 g2 _=>?_;obtain⟨⟨sp',o'⟩,hy,hz⟩:=VK.mp h;(injection hz with hz;subst hz);dsimp only;rw[sV];dsimp only;obtain⟨m,hm'⟩:∃m,most-many=m+1:=⟨most-many-1,by exact GU hm⟩
   have hm2:most-(many+1)=m:=by exact Nz hm'
   rw[hm',List.take_succ_cons,lX,pY,VW];have fe:∀y:List UInt8,found++([45]++y++[37])=found++[45]++y++[37]:=fun y=>by simp
   rw[fe];have cnt:many+1+min m sp'.length=many+min (m+1) ((a,e)::sp').length:=by rw[VT,Nat.add_min_add_right];exact Nat.add_right_comm _ _ _
   split
   ·rename_i hae;rw[if_neg V9,kj F f e (many+1) _ sp' o' g2 (kI hF hae) (kI hf hae) (by rw[show behindN a e=e from if_pos hae]at hy;exact hy),hm2,cnt]
   ·rename_i hae;have:e=a:=by exact Ax g1 hae
    subst this;have hbe:behindN e e=e+1:=if_neg Ay;rw[hbe]at hy
    split
    ·rename_i hl;rw[if_neg V9,kj F f (e+1) (many+1) _ sp' o' (bI hl) (di hF) (di hf) hy,hm2,cnt,lZ hl];intro x hx;have:=n9 hy x (by
      induction hs:sp' using Vr with
      |nil=>rw[hs]at hx;simp at hx
      |cons y r=>
       rw[hs]at hx;induction m using V3 with
       |zero=>simp at hx
       |succ m=>simpa using hx)
     exact GW this
    ·have:sp'=[]:=by
      induction F using V3 with
      |zero=>cases hy;rfl
      |succ F=>rw[a8]at hy;rw[if_pos (by exact rq (by assumption))]at hy;cases hy;rfl
     subst this;simp[eE,lY]
theorem mU:∀(F f a many:Nat)(found:List UInt8),a<=T.length->T.length+2<=F+a->T.length+2<=f+a->many+(T.length+2-a)<=most->bY T P F a=none->
  cS T P N1 most false f a many found=none
 |0,f,a,many,found,ha,hF,hf,hm,h=>by exact(rl hF ha).elim
 |F+1,0,a,many,found,ha,hF,hf,hm,h=>by exact(rl hf ha).elim
 |F+1,f+1,a,many,found,ha,hF,hf,hm,h=>by
  rw[gU];rw[if_neg (by exact GX hm ha)];rw[a8]at h;rw[if_neg (by exact uk ha)]at h;show(match att T P a with|.err=>none|.fail=>_|.ok e cs=>_)=_;induction hA:att T P a using jh.casesOn with
  |err=>rfl
  |fail=>
   rw[hA]at h;dsimp only at h⊢
   split
   ·rw[if_neg V9];exact mU F f (a+1) many _ (bI (by assumption)) (di hF) (di hf) (GY hm) h
   ·induction F using V3 with
    |zero=>injection h
    |succ F=>rw[a8]at h;rw[if_pos (by exact rq (by assumption))]at h;injection h
  |ok e cs=>
   rw[hA]at h;refine qX (jl ha hA) fun g1 g2 _=>?_;have hy:bY T P F (behindN a e)=none:=Option.map_eq_none_iff.mp h;dsimp only;rw[sV];dsimp only
   split
   ·rename_i hae;rw[if_neg V9];exact mU F f e (many+1) _ g2 (kI hF hae) (kI hf hae) (GZ hm hae g2) (by rw[show behindN a e=e from if_pos hae]at hy;exact hy)
   ·rename_i hae;have:e=a:=by exact Ax g1 hae
    subst this;have hbe:behindN e e=e+1:=if_neg Ay;rw[hbe]at hy
    split
    ·rw[if_neg V9];exact mU F f (e+1) (many+1) _ (bI (by assumption)) (di hF) (di hf) (G1 hm (by assumption)) hy
    ·induction F using V3 with
     |zero=>injection hy
     |succ F=>rw[a8]at hy;rw[if_pos (by exact rq (by assumption))]at hy;injection hy
def EY(hT:T.length<=20)(h:spansN T P=none):replN T P N1 99 false=none:=by
 rw[bM]at h;exact mU (T.length+2) (T.length+2) 0 0 [] ur me me (G2 hT) h
set_option tactic.hygienic true in
theorem spans_len:∀{f a:Nat} {sp:List bR} {o:Bool},bY T P f a=some (sp,o)->sp.length+a<=T.length+1\/sp=[]
 |0,a,sp,o,h=>by cases h;exact .inr rfl
 |f+1,a,sp,o,h=>by
  rw[a8]at h
  split at h
  ·cases h;exact .inr rfl
  ·split at h
   ·injection h
   ·rcases spans_len h with z|z
    ·left;exact NA z
    ·exact .inr z
   ·rename_i hb e cs hA;obtain⟨⟨sp',o'⟩,hy,hz⟩:=VK.mp h;(injection hz with hz;subst hz);have g:=ka a e (jl (ng (by assumption)) hA).1;rcases spans_len hy with z|z
    ·left;simp only[VT];exact NB z g
    ·left;rw[z];simp only[VT,Za];exact PD (by assumption)
def cg(h:spansN T P=some (sp,o)):sp.length<=T.length+1:=by
 rw[bM]at h;rcases spans_len h with z|z
 ·exact NC z
 ·rw[z];simp
def yd(h:spansN T P=some (sp,o)):replN T P N1 few false=some (mO T (sp.take few),(sp.take few).length):=by
 rw[bM]at h;have:=kj (most:=few) (T.length+2) (T.length+2) 0 0 [] sp o ur me me h;unfold replN;rw[this,r7,Nat.sub_zero,Nat.zero_add,List.length_take]
def yc(hT:T.length<=20)(h:spansN T P=some (sp,o)):replN T P N1 99 false=some (mO T sp,sp.length):=by
 have hl:=cg h;rw[yd (few:=99) h,WZ (by exact ND hl hT)]
noncomputable def du(sp:List bR):List bR:=(sp.take 1).filter fun x=>decide (x.1=0)
def zt(h:spansN T P=some (sp,o)):replN T P N1 99 true=some (mO T (du sp),(du sp).length):=by
 rw[bM]at h;rw[a8]at h;rw[if_neg (by exact G3)]at h;delta replN;rw[gU];rw[if_neg (by decide)];show(match att T P 0 with|.err=>none|.fail=>_|.ok e cs=>_)=_;rw[r7];have full:∀n:Nat,eE T 0 [] n=some (ui T [] [] 0,n):=fun n=>rfl;induction hA:att T P 0 using jh.casesOn with
 |err=>rw[hA]at h;injection h
 |fail=>
  rw[hA]at h;have hb:du sp=[]:=by
   unfold du;induction sp using Vr with
   |nil=>rfl
   |cons x r=>
    have:=n9 h x rfl;simp[show¬x.1=0 by exact NF this]
  rw[hb];dsimp only
  split
  ·rename_i hl;rw[if_pos rfl];have:=lZ (sp:=[]) (found:=[]) hl (fun x hx=>by injection hx);rw[List.nil_append]at this;show eE T (0+1) [T.getD 0 0] 0=_;rw[←this];rfl
  ·rfl
 |ok e cs=>
  rw[hA]at h;refine qX (jl (Wy _) hA) fun g1 g2 _=>?_;obtain⟨⟨sp',o'⟩,hy,hz⟩:=VK.mp h;(injection hz with hz;subst hz);have hb:du ((0,e)::sp')=[(0,e)]:=by unfold du;simp
  rw[hb];dsimp only;rw[sV];dsimp only;rw[lX,pY,VW];have fe:∀y:List UInt8,([]:List UInt8)++([45]++y++[37])=[]++[45]++y++[37]:=fun y=>by simp
  rw[fe]
  split
  ·rw[if_pos rfl];rfl
  ·rename_i hae;have:e=0:=by exact NG hae
   subst this
   split
   ·rename_i hl;rw[if_pos rfl,←lZ (sp:=[]) hl (fun x hx=>by injection hx)];rfl
   ·rfl
end
section
variable{T P:List UInt8}{d:Nat}
noncomputable def si(d:Nat)(cs:List cq):List cq:=cs.map fun c=>(c.1+d,c.2)
noncomputable def HU(d:Nat):jh->jh
 |.err=>.err|.fail=>.fail|.ok e cs=>.ok (e+d) (si d cs)
def Ck(s:Nat):(T.drop d)[s]?=T[s+d]?:=by rw[ZD,Nat.add_comm]
def AC(s:Nat):atP (T.drop d) s=atP T (s+d):=by unfold atP;rw[Ck]
def gX(s p e:Nat):ar (T.drop d) P s p e=ar T P (s+d) p e:=by unfold ar;rw[Ck]
theorem AK(hd:d<=T.length):∀(f g s n:Nat),T.length+1<=f+(s+d)->(T.drop d).length+1<=g+s->eJ T b e f (s+d) n=(eJ (T.drop d) b e g s n).map (·+d)
 |0,g,s,n,hf,hg=>by
  induction g using V3 with
  |zero=>rfl
  |succ g=>rw[hJ];rw[if_pos (by simp;exact NH hf)];rfl
 |f+1,0,s,n,hf,hg=>by rw[hJ];rw[if_pos (by simp at hg;exact NI hg)];rfl
 |f+1,g+1,s,n,hf,hg=>by
  rw[hJ,hJ];rw[AC,XJ];by_cases h1:T.length<=s+d
  ·rw[if_pos h1,if_pos (show T.length-d<=s by exact G4 h1)];rfl
  rw[if_neg h1,if_neg (show¬T.length-d<=s by exact NJ h1)];have ih:=fun n=>AK hd (b:=b) (e:=e) f g (s+1) n (NK hf) (by rw[XJ]at hg⊢;exact NL hg);rw[show s+1+d=s+d+1 by exact rm]at ih;by_cases h2:atP T (s+d)=e
  ·rw[if_pos h2,if_pos h2];by_cases h3:n=1
   ·rw[if_pos h3,if_pos h3];show some (s+d+1)=some (s+1+d)
    congr 1;exact NM
   ·rw[if_neg h3,if_neg h3];exact ih _
  ·rw[if_neg h2,if_neg h2];by_cases h3:atP T (s+d)=b
   ·rw[if_pos h3,if_pos h3];exact ih _
   ·rw[if_neg h3,if_neg h3];exact ih _
def D8(hd:d<=T.length):lj T (s+d) b e=(lj (T.drop d) s b e).map (·+d):=by
 unfold lj;rw[AC,XJ];have iff:(T.length<=s+d\/atP T (s+d)≠b)↔(T.length-d<=s\/atP T (s+d)≠b):=
  ⟨fun z=>z.elim (fun z=>.inl (G4 z)) .inr,fun z=>z.elim (fun z=>.inl (NN z)) .inr⟩
 by_cases h:T.length<=s+d\/atP T (s+d)≠b
 ·rw[if_pos h,if_pos (iff.mp h)];rfl
 ·rw[if_neg h,if_neg (fun z=>h (iff.mpr z))];have:=AK hd (b:=b) (e:=e) (T.length+1) (T.length-d+1) (s+1) 1 NO (by rw[XJ];exact NP);rw[show s+1+d=s+d+1 by exact rm]at this;exact this
theorem nR(hg:∀i,g i=true->i<L):∀f f' i,L<=f+i->L<=f'+i->cR g f i=cR g f' i
 |0,0,i,_,_=>rfl
 |0,f'+1,i,h,_=>by
  rw[fi,if_neg fun z=>by have:=hg i z;exact G5 this h];rfl
 |f+1,0,i,_,h=>by
  rw[fi,if_neg fun z=>by have:=hg i z;exact G5 this h];rfl
 |f+1,f'+1,i,h1,h2=>by
  rw[fi,fi]
  split
  ·exact nR hg f f' (i+1) (xI h1) (xI h2)
  ·rfl
theorem tz(h:∀i,g' i=HU d (g i)):∀n,b9 g' n=HU d (b9 g n)
 |0=>h 0
 |n+1=>by
  rw[jQ,jQ];rw[h (n+1),tz h n];induction g (n+1)using jh.casesOn<;>rfl
theorem ve(h:∀i,g' (i+d)=HU d (g i))(hs:∀i,sg' (i+d)=sg i)(hb:∀i,sg i=true->i<L):
  ∀f f' s,1<=f->1<=f'->L+1<=f+s->L+1<=f'+s->cw g' sg' f (s+d)=HU d (cw g sg f' s)
 |0,_,s,h1,_,_,_=>by exact(G6 h1).elim
 |f+1,0,s,_,h1,_,_=>by exact(G6 h1).elim
 |f+1,f'+1,s,_,_,h1,h2=>by
  rw[eH,eH];rw[h s,hs s];induction g s using jh.casesOn with
  |err=>rfl
  |ok=>rfl
  |fail=>
   dsimp only[HU]
   split
   ·rename_i z;have:=hb s z;have ih:=ve h hs hb f f' (s+1) (G7 h1 this) (G7 h2 this) (kH h1) (kH h2);rw[show s+1+d=s+d+1 by exact rm]at ih;exact ih
   ·rfl
def Fy(cs:List cq)(n:Nat):((si d cs).getD n (0,0)).2=(cs.getD n (0,0)).2:=by
 unfold si;rw[VG,VG,Ww];induction cs[n]? using Option.casesOn<;>rfl
theorem HS(cs:List cq):∀j,kC (si d cs) j=kC cs j
 |0=>rfl
 |j+1=>by rw[nP,nP,Fy,HS cs j]
def yF(cs:List cq):(si d cs).length=cs.length:=by unfold si;simp
def u'(cs:List cq):bz (si d cs)=bz cs:=by unfold bz;rw[yF,HS]
def vI(cs:List cq)(s:Nat)(v:Int):si d cs++[(s+d,v)]=si d (cs++[(s,v)]):=by unfold si;simp
theorem yf{cs:List cq}{n:Nat}:∀j,kC cs j=some n->n<j
 |0,h=>by injection h
 |j+1,h=>by
  rw[nP]at h
  split at h
  ·(injection h with h;subst h);exact xw
  ·have:=yf j h;exact NQ this
def Fz{cs:List cq}{n s:Nat}(hn:n<cs.length):
  (si d cs).set n (((si d cs).getD n (0,0)).1,((s+d:Nat):Int)-(((si d cs).getD n (0,0)).1:Int))=si d (cs.set n ((cs.getD n (0,0)).1,(s:Int)-((cs.getD n (0,0)).1:Int))):=by
 have e:((si d cs).getD n (0,0)).1=(cs.getD n (0,0)).1+d:=by
  unfold si;rw[VG,VG,Ww,Vw hn];rfl
 rw[e];unfold si;rw[List.map_set]
 congr 2
 omega
theorem vi(hd:d<=T.length):∀(f s p:Nat)(cs:List cq),aG T P f (s+d) p (si d cs)=HU d (aG (T.drop d) P f s p cs)
 |0,s,p,cs=>rfl
 |f+1,s,p,cs=>by
  have ih:=vi hd f;rw[bW,bW]
  split
  ·rfl
  split
  ·rw[yF]
   split
   ·rfl
   ·rw[vI,vI]
    split
    ·exact ih _ _ _
    ·exact ih _ _ _
  split
  ·rw[u'];induction hl:bz cs using Option.casesOn with
   |none=>rfl
   |some n=>
    dsimp only;rw[Fz (yf _ hl)];exact ih _ _ _
  split
  ·split
   ·rfl
   ·rw[D8 hd];induction lj (T.drop d) s (atP P (p+2)) (atP P (p+3))using Option.casesOn with
    |none=>rfl
    |some s'=>exact ih _ _ _
  ·induction bp P p using Option.casesOn with
   |none=>rfl
   |some e=>
    have sg:∀i,ar T P (s+d+i) p e=ar (T.drop d) P (s+i) p e:=fun i=>by rw[gX,show s+i+d=s+d+i by exact G8]
    have bnd:∀j i,ar (T.drop d) P (j+i) p e=true->i<(T.drop d).length:=fun j i z=>by have:=gW z;exact NR this
    dsimp only
    split
    ·rw[show(fun i=>ar T P (s+d+i) p e)=fun i=>ar (T.drop d) P (s+i) p e from funext sg,
      nR (L:=(T.drop d).length) (bnd s) (T.length+1) ((T.drop d).length+1) 0 (by simp;exact uw) G9]
     refine tz (fun i=>?_) _;rw[show s+d+i=s+i+d by exact G8];exact ih _ _ _
    split
    ·have e0:ar T P (s+d) p e=ar (T.drop d) P s p e:=(gX s p e).symm;by_cases hs:ar (T.drop d) P s p e=true
     ·rw[if_pos (show ar T P (s+d) p e=true from e0.trans hs),if_pos hs];rw[show(fun i=>ar T P (s+d+1+i) p e)=fun i=>ar (T.drop d) P (s+1+i) p e from funext fun i=>by rw[gX,show s+1+i+d=s+d+1+i by exact NT],
       nR (L:=(T.drop d).length) (bnd (s+1)) (T.length+1) ((T.drop d).length+1) 0 (by simp;exact uw) G9]
      refine tz (fun i=>?_) _;rw[show s+d+1+i=s+1+i+d by exact NU];exact ih _ _ _
     ·rw[if_neg (show¬ar T P (s+d) p e=true from fun z=>hs (e0.symm.trans z)),if_neg hs];rfl
    split
    ·exact ve (L:=(T.drop d).length) (g:=fun s=>aG (T.drop d) P f s (e+1) cs) (sg:=fun s=>ar (T.drop d) P s p e) (fun i=>ih _ _ _) (fun i=>(gX i p e).symm) (fun i z=>gW z) _ _ s xy xy (by simp;exact NV) G_
    have e0:ar T P (s+d) p e=ar (T.drop d) P s p e:=(gX s p e).symm;by_cases hs:ar (T.drop d) P s p e=true
    ·have hs':ar T P (s+d) p e=true:=e0.trans hs
     split
     ·try rw[if_pos hs',if_pos hs]
      have h1:=ih (s+1) (e+1) cs;rw[show s+1+d=s+d+1 by exact rm]at h1;rw[h1,ih s (e+1) cs];induction aG (T.drop d) P f (s+1) (e+1) cs using jh.casesOn<;>rfl
     ·try rw[if_pos hs',if_pos hs]
      have h1:=ih (s+1) e cs;rw[show s+1+d=s+d+1 by exact rm]at h1;exact h1
    ·have hs':¬ar T P (s+d) p e=true:=fun z=>hs (e0.symm.trans z)
     split
     ·try rw[if_neg hs',if_neg hs]
      exact ih _ _ _
     ·try rw[if_neg hs',if_neg hs]
      rfl
def It(hd:d<=T.length)(a:Nat):att T P (a+d)=HU d (att (T.drop d) P a):=vi hd _ a 0 []
def E9(cs:List cq):fF (si d cs)=fF cs:=by unfold fF si;rw[List.any_map];rfl
noncomputable def Df(d:Nat)(sp:List bR):List bR:=sp.map fun x=>(x.1+d,x.2+d)
theorem t9(hd:d<=T.length):∀(f a:Nat),bY T P f (a+d)=(bY (T.drop d) P f a).map fun x=>(Df d x.1,x.2)
 |0,a=>rfl
 |f+1,a=>by
  rw[a8,a8];rw[It hd,XJ];by_cases h:T.length<a+d
  ·rw[if_pos h,if_pos (by exact NW h hd)];rfl
  rw[if_neg h,if_neg (by exact NY h)];induction att (T.drop d) P a using jh.casesOn with
  |err=>rfl
  |fail=>
   have:=t9 hd f (a+1);rw[show a+1+d=a+d+1 by exact rm]at this;exact this
  |ok e cs=>
   dsimp only[HU];have hb:behindN (a+d) (e+d)=behindN a e+d:=by unfold behindN;split<;>split<;>omega
   rw[hb,t9 hd f,E9];induction bY (T.drop d) P f (behindN a e)using Option.casesOn with
   |none=>rfl
   |some x=>rfl
noncomputable def pastN(sp:List bR)(few:Nat):Nat:=if 0<few then behindN (sp.getD (few-1) (0,0)).1 (sp.getD (few-1) (0,0)).2 else 0
theorem gZ:∀(f g a:Nat),T.length+1<=f+a->T.length+1<=g+a->bY T P f a=bY T P g a
 |0,0,a,_,_=>rfl
 |0,g+1,a,h,_=>by rw[a8,if_pos (by exact xH h)];rfl
 |f+1,0,a,_,h=>by rw[a8,if_pos (by exact xH h)];rfl
 |f+1,g+1,a,h1,h2=>by
  rw[a8,a8];by_cases h:T.length<a
  ·rw[if_pos h,if_pos h]
  rw[if_neg h,if_neg h];induction hA:att T P a using jh.casesOn with
  |err=>rfl
  |fail=>exact gZ f g (a+1) (kH h1) (kH h2)
  |ok e cs=>
   have:=ka a e (jl (ng h) hA).1;dsimp only;rw[gZ f g (behindN a e) (uq h1 this) (uq h2 this)]
set_option tactic.hygienic true in
theorem n8:∀(few f a:Nat) (sp:List bR) (o:Bool),T.length+1<=f+a->bY T P f a=some (sp,o)->few<sp.length->∃o',∀g,T.length+1<=g+pastN sp (few+1)->bY T P g (pastN sp (few+1))=some (sp.drop (few+1),o')
 |few,0,a,sp,o,hf,h,hl=>by cases h;cases hl
 |few,f+1,a,sp,o,hf,h,hl=>by
  rw[a8]at h
  split at h
  ·cases h;cases hl
  ·split at h
   ·cases h
   ·exact n8 few f (a+1) sp o (kH hf) h hl
   ·rename_i hb e cs hA;obtain⟨⟨sp',o'⟩,hy,hz⟩:=VK.mp h;(injection hz with hz;subst hz);have g:=ka a e (jl (ng (by assumption)) hA).1;induction few using V3 with
    |zero=>
     refine⟨o',fun g' hg'=>?_⟩;have e1:pastN ((a,e)::sp') (0+1)=behindN a e:=rfl;rw[e1]at hg'⊢;rw[gZ g' f _ hg' (uq hf g),hy];rfl
    |succ few=>
     refine o8 (n8 few f (behindN a e) sp' o' (uq hf g) hy (by simpa using hl)) fun o2 h2=>?_;have e1:pastN ((a,e)::sp') (few+1+1)=pastN sp' (few+1):=by
      unfold pastN;rw[if_pos (by exact NZ),if_pos (by exact G')];rfl
     rw[e1];exact⟨o2,h2⟩
def se(h:spansN T P=some (sp,o))(hf:few<=sp.length):∃o',∀g,T.length+1<=g+pastN sp few->bY T P g (pastN sp few)=some (sp.drop few,o'):=by
 rw[bM]at h;induction few using V3 with
 |zero=>exact⟨o,fun g hg=>by rw[show pastN sp 0=0 from rfl]at hg⊢;rw[gZ g (T.length+2) 0 hg Az,h];rfl⟩
 |succ few=>exact n8 few (T.length+2) 0 sp o Az h (uo hf)
def th{sp:List bR}{o:Bool}{few:Nat}(h:spansN T P=some (sp,o))(hf:few<=sp.length)(hp:T.length<pastN sp few):sp.drop few=[]:=by
 refine o8 (se h hf) fun o' h'=>?_;have:=h' 1 (N0 hp);rw[a8]at this;rw[if_pos hp]at this;exact(Prod.mk.inj (XE this)).1.symm
def Cv{sp:List bR}{o:Bool}{few:Nat}(hT:T.length<=20)(h:spansN T P=some (sp,o))(hf:few<=sp.length)(hp:pastN sp few<=T.length):
  ∃sp',sp.drop few=Df (pastN sp few) sp'/\replN (T.drop (pastN sp few)) P N1 99 false=some (mO (T.drop (pastN sp few)) sp',sp'.length):=by
 refine o8 (se h hf) fun o' h'=>?_;have h1:=h' (T.length+2) G_;have h2:=t9 (P:=P) hp (T.length+2) 0;rw[Nat.zero_add,h1]at h2;obtain⟨⟨sp',o2⟩,h3,h4⟩:=VK.mp h2.symm;refine i0 sp' ((Prod.mk.inj h4).1.symm) (yc (o:=o2) (by simp;exact He hT) ?_);rw[bM,gZ _ (T.length+2) 0 (by exact Az) (by simp;exact uw)];exact h3
end
section
variable{T P:List UInt8}
noncomputable def bf(P:List UInt8):List UInt8:=40::(P++[41])
def ck:(bf P).length=P.length+2:=by unfold bf;simp
def v8(h:p<P.length):atP (bf P) (p+1)=atP P p:=by
 unfold atP bf;rw[XU,VF h]
def sE:atP (bf P) (P.length+1)=41:=by
 unfold atP bf;rw[XU,Vm (VB _)];simp
def lh(hp:p<=P.length)(h0:c≠0)(h1:c≠41):atP (bf P) (p+1)=c↔atP P p=c:=by
 rcases Xd p P.length with h|h
 ·rw[v8 h]
 ·have:p=P.length:=by exact N3 hp h
  subst this;rw[sE,nh (VB _)];exact N4 h0 h1
def Ej(h:P.length<=p):jn P f p false=none:=by
 induction f using V3 with
 |zero=>rfl
 |succ f=>rw[lu];rw[nh h];simp[h]
theorem Ek:∀(f g p:Nat)(b:Bool)(e:Nat),f<=g->jn P f p b=some e->jn (bf P) g (p+1) b=some (e+1)
 |0,g,p,b,e,hg,h=>by cases h
 |f+1,0,p,b,e,hg,h=>by exact(N5 hg).elim
 |f+1,g+1,p,b,e,hg,h=>by
  rw[lu]at h⊢;by_cases hc:(b||decide (atP P p≠93))=true
  ·rw[if_pos hc]at h;by_cases hp:P.length<=p
   ·rw[if_pos hp]at h;cases h
   ·rw[if_neg hp]at h;have e1:=v8 (P:=P) (p:=p) (Ap hp);rw[e1,if_pos hc,ck,if_neg (by exact N6 hp)];by_cases h37:atP P p=37
    ·rw[if_pos ⟨h37,by exact N7 hp⟩];by_cases hl:p+1<P.length
     ·rw[if_pos ⟨h37,hl⟩]at h;exact Ek f g (p+2) false e (Hf hg) h
     ·rw[if_neg fun z=>hl z.2,Ej (by exact AA hl)]at h;cases h
    ·rw[if_neg fun z=>h37 z.1]at h;rw[if_neg fun z=>h37 z.1];exact Ek f g (p+1) false e (Hf hg) h
  ·rw[if_neg hc]at h;(injection h with h;subst h);have h93:atP P p=93:=by simp at hc;exact hc.2
   have e1:=v8 (P:=P) (p:=p) (br h93 (by decide));rw[e1,if_neg hc]
def we(hp:p<P.length)(h:bp P p=some e):bp (bf P) (p+1)=some (e+1):=by
 unfold bp at h⊢;rw[v8 hp,ck]
 split at h
 ·rename_i h37;rw[if_pos h37]
  split at h
  ·cases h
  ·(injection h with h;subst h);rw[if_neg (by exact PF (by assumption))]
 ·rename_i h37;rw[if_neg h37]
  split at h
  ·rename_i h91;rw[if_pos h91];(injection h with h;subst h);rfl
  ·rename_i h91;rw[if_neg h91];have e94:=lh (P:=P) (p:=p+1) (c:=94) (bI hp) (by decide) (by decide);by_cases h94:atP P (p+1)=94
   ·rw[if_pos h94]at h;rw[if_pos (e94.mpr h94)];exact Ek _ _ _ _ _ Hg h
   ·rw[if_neg h94]at h;rw[if_neg fun z=>h94 (e94.mp z)];exact Ek _ _ _ _ _ Hg h
theorem Cq{c last:Nat}{w:Bool}(hl:last<P.length):∀(f g p:Nat),last<=f+p->last<=g+p->ip (bf P) c (last+1) w g (p+1)=ip P c last w f p
 |0,0,p,_,_=>rfl
 |0,g+1,p,h,_=>by rw[nJ,if_neg (by exact N8 h)];rfl
 |f+1,0,p,_,h=>by rw[nJ,if_neg (by exact N9 h)];rfl
 |f+1,g+1,p,h1,h2=>by
  rw[nJ,nJ];by_cases hp:p<last
  ·rw[if_pos hp,if_pos (by exact Gy hp),v8 (p:=p) (N_ hl hp),v8 (p:=p+1) (Oa hl hp)];by_cases h37:atP P p=37
   ·rw[if_pos h37,if_pos h37,Cq hl f g (p+2) (Hh h1) (Hh h2)]
   ·rw[if_neg h37,if_neg h37];by_cases h45:atP P (p+1)=45/\p+2<last
    ·rw[if_pos h45,if_pos ⟨h45.1,by exact Ob h45⟩,v8 (p:=p+2) (Oc h45 hl),Cq hl f g (p+3) (Hj h1) (Hj h2)]
    ·rw[if_neg h45,if_neg (fun z=>h45 ⟨z.1,by exact Od z⟩),Cq hl f g (p+1) (xI h1) (xI h2)]
  ·rw[if_neg hp,if_neg (by exact Oe hp)]
def Dg(hp:p<P.length)(h:bp P p=some e):ar T (bf P) s (p+1) (e+1)=ar T P s p e:=by
 refine qX (lz hp h) fun b1 b2 b3=>?_;unfold ar;rw[v8 hp];induction T[s]? using Option.casesOn with
 |none=>rfl
 |some c=>
  dsimp only;by_cases h46:atP P p=46
  ·rw[if_pos h46,if_pos h46]
  rw[if_neg h46,if_neg h46];by_cases h37:atP P p=37
  ·rw[if_pos h37,if_pos h37,v8 (p:=p+1) (b3 h37)]
  rw[if_neg h37,if_neg h37];by_cases h91:atP P p=91
  ·rw[if_pos h91,if_pos h91];unfold sY;have e94:=lh (P:=P) (p:=p+1) (c:=94) (bI hp) (by decide) (by decide);obtain⟨l,hl⟩:∃l,e=l+1:=⟨e-1,by exact Of b1⟩
   subst hl;rw[ck];show(if atP (bf P) (p+1+1)=94 then ip (bf P) c.toNat (l+1) false (P.length+2+1) (p+1+2)else ip (bf P) c.toNat (l+1) true (P.length+2+1) (p+1+1))=(if atP P (p+1)=94 then ip P c.toNat l false (P.length+1) (p+2)else ip P c.toNat l true (P.length+1) (p+1));by_cases h94:atP P (p+1)=94
   ·rw[if_pos h94,if_pos (e94.mpr h94)];exact Cq (uo b2) _ _ (p+2) (Og b2) (Oh b2)
   ·rw[if_neg h94,if_neg fun z=>h94 (e94.mp z)];exact Cq (uo b2) _ _ (p+1) (Oi b2) (Oj b2)
  ·rw[if_neg h91,if_neg h91]
theorem yg(c:cq)(cs:List cq):∀j,kC (c::cs) (j+1)=match kC cs j with|some n=>some (n+1)|none=>if c.2=-1 then some 0 else none
 |0=>rfl
 |j+1=>by
  rw[show kC (c::cs) (j+1+1)=if((c::cs).getD (j+1) (0,0)).2=-1 then some (j+1)else kC (c::cs) (j+1)from rfl,yg c cs j];rw[show kC cs (j+1)=if(cs.getD j (0,0)).2=-1 then some j else kC cs j from rfl,show(c::cs).getD (j+1) (0,0)=cs.getD j (0,0)from rfl];by_cases h:(cs.getD j (0,0)).2=-1
  ·rw[if_pos h,if_pos h]
  ·rw[if_neg h,if_neg h]
def kX(b:Nat)(cs:List cq):bz ((b,-1)::cs)=match bz cs with|some n=>some (n+1)|none=>some 0:=by
 unfold bz;rw[VT,yg];rfl
theorem yh:∀j,kC cs j=none->∀i,i<j->(cs.getD i (0,0)).2≠-1
 |0,_,i,hi=>by exact Ol hi
 |j+1,h,i,hi=>by
  rw[nP]at h
  split at h
  ·injection h
  ·rename_i hj;rcases Xd i j with z|z
   ·exact yh j h i z
   ·have:i=j:=by exact xF hi z
    subst this;exact hj
def vo(cs:List cq):fF cs=(bz cs).isSome:=by
 induction h:bz cs using Option.casesOn with
 |none=>
  refine iC.mpr fun i c hc=>?_;have hi:=(Vn.mp hc).1;have:=yh _ h i hi;rw[VG,hc]at this;exact this
 |some n=>
  refine kY (nQ _ h) fun h1 h2=>?_;induction ho:fF cs using Vu with
  |true=>rfl
  |false=>
   refine absurd h2 ?_;rw[VG,Vw h1];exact iC.mp ho n _ (Vw h1)
def LR(b:Nat)(r r':jh):Prop:=match r with
 |.err=>True
 |.fail=>r'=.fail
 |.ok e cs=>∃cs':List cq,r'=.ok e cs'/\(fF cs=true->∃x:cq,cs'[0]?=some x/\x.2=-1)/\(fF cs=false->cs'[0]?=some (b,(e:Int)-b))
theorem tx(h:∀i,LR b (g i) (g' i)):∀n,LR b (b9 g n) (b9 g' n)
 |0=>h 0
 |n+1=>by
  have h1:=h (n+1);rw[jQ,jQ];induction hg:g (n+1)using jh.casesOn with
  |err=>exact trivial
  |fail=>
   rw[hg]at h1;rw[show g' (n+1)=.fail from h1];exact tx h n
  |ok e cs=>
   rw[hg]at h1;refine o1 h1 fun cs' h2 h3=>?_;rw[h2];exact i0 cs' rfl h3
theorem vd(h:∀i,LR b (g i) (g' i)):∀f s,LR b (cw g sg f s) (cw g' sg f s)
 |0,s=>trivial
 |f+1,s=>by
  have h1:=h s;rw[eH,eH];induction hg:g s using jh.casesOn with
  |err=>exact trivial
  |fail=>
   rw[hg]at h1;rw[show g' s=.fail from h1];dsimp only
   split
   ·exact vd h f (s+1)
   ·rfl
  |ok e cs=>
   rw[hg]at h1;refine o1 h1 fun cs' h2 h3=>?_;rw[h2];exact i0 cs' rfl h3
def fR [Decidable p][Decidable q](e:p↔q)(h1:p->LR b x x')(h2:¬p->LR b y y'):LR b (if p then x else y) (if q then x' else y'):=by
 by_cases h:p
 ·rw[if_pos h,if_pos (e.mp h)];exact h1 h
 ·rw[if_neg h,if_neg fun z=>h (e.mpr z)];exact h2 h
theorem Qv(h20:P.length<=20):∀(f g s p:Nat)(cs:List cq),f+1<=g->p<=P.length->cs.length<=p->LR b (aG T P f s p cs) (aG T (bf P) g s (p+1) ((b,-1)::cs))
 |0,g,s,p,cs,hg,hp,hc=>trivial
 |f+1,0,s,p,cs,hg,hp,hc=>by omega
 |f+1,g+1,s,p,cs,hg,hp,hc=>by
  have ih:∀(s p:Nat)(cs:List cq),p<=P.length->cs.length<=p->LR b (aG T P f s p cs) (aG T (bf P) g s (p+1) ((b,-1)::cs)):=fun s p cs=>Qv h20 f g s p cs (Om hg);rw[bW,bW];rw[ck,if_neg (show¬P.length+2<=p+1 by exact On hp)];by_cases hpl:P.length<=p
  ·rw[if_pos hpl];have:p=P.length:=by exact DX hp hpl
   subst this;rw[sE,if_neg (by decide),if_pos rfl,kX];obtain⟨g,rfl⟩:∃g',g=g'+1:=(i4 (g-1) (Oo hg))
   have fin:∀l:List cq,aG T (bf P) (g+1) s (P.length+1+1) l=.ok s l:=fun l=>by rw[bW];rw[ck,if_pos (by exact Oq)]
   induction hl:bz cs using Option.casesOn with
   |none=>
    dsimp only;rw[fin];refine i8 _ rfl (fun z=>?_) (fun _=>rfl);rw[vo,hl]at z;injection z
   |some n=>
    dsimp only;rw[fin];refine i8 _ rfl (fun _=>⟨(b,-1),rfl,rfl⟩) (fun z=>?_);rw[vo,hl]at z;injection z
  rw[if_neg hpl];have hp':p<P.length:=by exact Ap hpl
  rw[v8 hp'];refine fR Iff.rfl (fun h40=>?_) fun h40=>?_
  ·rw[if_neg (show¬32<=cs.length by exact Os h20 hc hpl),VT,if_neg (show¬32<=cs.length+1 by exact Ot h20 hc hpl)];by_cases hl:p+1<P.length
   ·rw[v8 hl];by_cases h41:atP P (p+1)=41
    ·rw[if_pos h41,if_pos h41];exact ih s (p+2) (cs++[(s,-2)]) (Ag hl) (by simp;exact DZ hc)
    ·rw[if_neg h41,if_neg h41];exact ih s (p+1) (cs++[(s,-1)]) (Ou hl) (by simp;exact qZ hc)
   ·have hpe:p+1=P.length:=by exact Ov hl hpl
    have e41:atP (bf P) (p+1+1)=41:=by rw[hpe];exact sE
    rw[if_neg (show¬atP P (p+1)=41 by rw[nh (by exact AA hl)];decide),if_pos e41];induction f using V3 with
    |zero=>exact trivial
    |succ f=>
     obtain⟨g,rfl⟩:∃g',g=g'+1:=(i4 (g-1) (Ow hg));rw[bW,bW];rw[if_pos (by exact AA hl),ck,if_pos (by exact Ox hl)];refine i8 _ rfl (fun _=>⟨(b,-1),rfl,rfl⟩) (fun z=>?_);unfold fF at z;simp at z
  refine fR Iff.rfl (fun h41=>?_) fun h41=>?_
  ·rw[kX];induction hl:bz cs using Option.casesOn with
   |none=>exact trivial
   |some n=>exact ih s (p+1) _ (Hk hpl) (by simp;exact DZ hc)
  have e98:=lh (P:=P) (p:=p+1) (c:=98) (Hk hpl) (by decide) (by decide);refine fR ⟨fun z=>⟨z.1,e98.mpr z.2⟩,fun z=>⟨z.1,e98.mp z.2⟩⟩ (fun h98=>?_) fun h98=>?_
  ·by_cases h3:P.length<=p+3
   ·rw[if_pos h3];exact trivial
   ·rw[if_neg h3,if_neg (show¬P.length+2<=p+1+3 by exact Oy h3),v8 (p:=p+2) (Oz h3),v8 (p:=p+3) (OA h3)];induction lj T s (atP P (p+2)) (atP P (p+3))using Option.casesOn with
    |none=>rfl
    |some s'=>exact ih s' (p+4) cs (Gv h3) (OB hc)
  induction hce:bp P p using Option.casesOn with
  |none=>exact trivial
  |some e=>
   refine qX (lz hp' hce) fun b1 b2 b3=>?_;rw[we hp' hce];have sg:∀i,ar T (bf P) i (p+1) (e+1)=ar T P i p e:=fun i=>Dg hp' hce;have q42:=lh (P:=P) (p:=e) (c:=42) b2 (by decide) (by decide);have q43:=lh (P:=P) (p:=e) (c:=43) b2 (by decide) (by decide);have q45:=lh (P:=P) (p:=e) (c:=45) b2 (by decide) (by decide);have q63:=lh (P:=P) (p:=e) (c:=63) b2 (by decide) (by decide);dsimp only;simp only[sg];refine fR q42.symm (fun h42=>?_) fun _=>?_
   ·have:=br h42 (by decide);exact tx (fun i=>ih _ (e+1) cs (bI this) (rn b1 hc)) _
   refine fR q43.symm (fun h43=>?_) fun _=>?_
   ·have:=br h43 (by decide);refine fR Iff.rfl (fun hs=>?_) fun _=>rfl
    ·exact tx (fun i=>ih _ (e+1) cs (bI this) (rn b1 hc)) _
   refine fR q45.symm (fun h45=>?_) fun _=>?_
   ·have:=br h45 (by decide);exact vd (fun i=>ih _ (e+1) cs (bI this) (rn b1 hc)) _ _
   refine fR q63.symm (fun h63=>?_) fun _=>?_
   ·have:=br h63 (by decide);refine fR Iff.rfl (fun hs=>?_) fun hs=>?_
    ·have h1:=ih (s+1) (e+1) cs (bI this) (rn b1 hc);induction hm:aG T P f (s+1) (e+1) cs using jh.casesOn with
     |err=>exact trivial
     |fail=>
      rw[hm]at h1;rw[show aG T (bf P) g (s+1) (e+1+1) ((b,-1)::cs)=.fail from h1];exact ih s (e+1) cs (bI this) (rn b1 hc)
     |ok e' cs'=>
      rw[hm]at h1;refine o1 h1 fun cs2 h2 h3=>?_;rw[h2];exact i0 cs2 rfl h3
    ·exact ih s (e+1) cs (bI this) (rn b1 hc)
   refine fR Iff.rfl (fun hs=>?_) fun _=>rfl
   ·exact ih (s+1) e cs (qZ b2) (OC b1 hc)
def Hz:atP (bf P) 0=40:=rfl
def PS(h20:P.length<=20)(hne:0<P.length)(h41:atP P 0≠41)(a:Nat):LR a (att T P a) (att T (bf P) a):=by
 have h:=Qv (T:=T) (b:=a) h20 (P.length+1) (P.length+2) a 0 [] OD ur (by simp);have e:att T (bf P) a=aG T (bf P) (P.length+2) a (0+1) [(a,-1)]:=by
  show aG T (bf P) ((bf P).length+1) a 0 []=_;rw[ck]
  conv=>lhs;rw[bW]
  rw[ck,if_neg (by exact Hm),Hz,if_pos rfl,if_neg (by decide),if_neg (by rw[v8 hne];exact h41)];rfl
 rw[e];exact h
def Ir(h41:atP P 0=41)(a:Nat):att T P a=.err:=by
 have hp:=br h41 (by decide);show aG T P (P.length+1) a 0 []=_;rw[bW];rw[if_neg (by exact Hn hp),h41,if_neg (by decide),if_pos rfl];rfl
def EJ:iK T cs N2 b e=match lq T cs 0 b e with|some (.bytes x)=>some x|_=>none:=by
 unfold iK;show(bq _ [37,49])=_;rw[dw];rw[if_pos rfl,if_pos (by decide)];show(match eu T cs 1 b e with|some (.bytes x)=>(bq _ []).map (x++·)|_=>none)=_;rw[show eu T cs 1 b e=lq T cs 0 b e from rfl];induction lq T cs 0 b e using Option.casesOn with
 |none=>rfl
 |some v=>induction v using AV.casesOn<;>first|rfl|(dsimp only;rw[show(bq _ []:Option (List UInt8))=some []from rfl];simp)
def Iy(h:cs[0]?=some c):lq T cs 0 b e=if c.2=-1 then none else if c.2=-2 then some (.int ((c.1+1:Nat):Int))else some (.bytes (cut T (min c.1 T.length) (min (c.1+c.2.toNat) T.length))):=by
 unfold lq;have:=(Vn.mp h).1;rw[if_neg (by exact Hn this),h]
theorem kl(h20:P.length<=20)(hne:0<P.length)(h41:atP P 0≠41):∀(F f a many:Nat)(found:List UInt8)(sp:List bR)(o:Bool),a<=T.length->T.length+2<=F+a->T.length+2<=f+a->many+(T.length+2-a)<=most->bY T P F a=some (sp,o)->
  cS T (bf P) N2 most false f a many found=if o then none else some (found++cut T a T.length,many+sp.length)
 |0,f,a,many,found,sp,o,ha,hF,hf,hm,h=>by exact(rl hF ha).elim
 |F+1,0,a,many,found,sp,o,ha,hF,hf,hm,h=>by exact(rl hf ha).elim
 |F+1,f+1,a,many,found,sp,o,ha,hF,hf,hm,h=>by
  have lr:=PS (T:=T) h20 hne h41 a;rw[gU];rw[if_neg (by exact GX hm ha)];rw[a8]at h;rw[if_neg (by exact uk ha)]at h;show(match att T (bf P) a with|.err=>none|.fail=>_|.ok e cs=>_)=_;induction hA:att T P a using jh.casesOn with
  |err=>rw[hA]at h;cases h
  |fail=>
   rw[hA]at h lr;rw[show att T (bf P) a=.fail from lr];dsimp only at h⊢
   split
   ·rename_i hl;rw[if_neg V9,kl h20 hne h41 F f (a+1) many _ sp o (by exact bI hl) (by exact di hF) (by exact di hf) (by exact GY hm) h,ph (b:=T.length) hl hl (VB _)];simp
   ·have:sp=[]/\o=false:=by
     induction F using V3 with
     |zero=>cases h;exact⟨rfl,rfl⟩
     |succ F=>rw[a8]at h;rw[if_pos (by exact rq (by assumption))]at h;cases h;exact⟨rfl,rfl⟩
    obtain⟨rfl,rfl⟩:=this;have ea:a=T.length:=by exact Hw ha (by assumption)
    subst ea;simp[eE]
  |ok e cs=>
   rw[hA]at h lr;refine eD lr fun cs' l1 l2 l3=>?_;refine qX (jl ha hA) fun g1 g2 _=>?_;obtain⟨⟨sp',o'⟩,hy,hz⟩:=VK.mp h;cases hz;rw[l1];dsimp only;rw[EJ];induction hod:fF cs using Vu with
   |true=>
    refine o1 (l2 hod) fun x hx hx1=>?_;rw[Iy hx,if_pos hx1];rfl
   |false=>
   have hx:=l3 hod;rw[Iy hx];dsimp only;rw[if_neg (show¬((e:Int)-a=-1) by exact OE g1),if_neg (show¬((e:Int)-a=-2) by exact OF g1)];dsimp only;have ec:cut T (min a T.length) (min (a+((e:Int)-a).toNat) T.length)=cut T a e:=by
    rw[WJ (V4 g1 g2),Int.toNat_sub,Nat.add_sub_cancel' g1,WJ g2]
   rw[ec,Bool.false_or];have split_cut:cut T a T.length=cut T a e++cut T e T.length:=by
    unfold cut;rw[show T.length-a=(e-a)+(T.length-e) by exact OG g1 g2,List.take_add,List.drop_drop,show a+(e-a)=e by exact OH g1]
   split
   ·rename_i hae;rw[if_neg V9,kl h20 hne h41 F f e (many+1) _ sp' o' g2 (by exact kI hF hae) (by exact kI hf hae) (by exact GZ hm hae g2) (by rw[show behindN a e=e from if_pos hae]at hy;exact hy),split_cut];simp only[VT,Wn];rw[show many+1+sp'.length=many+(sp'.length+1) by exact DW]
   ·rename_i hae;have:e=a:=by exact Ax g1 hae
    subst this;have hbe:behindN e e=e+1:=if_neg (by exact Ay);rw[hbe]at hy;rw[pY,VW]
    split
    ·rename_i hl;rw[if_neg V9,kl h20 hne h41 F f (e+1) (many+1) _ sp' o' (by exact bI hl) (by exact di hF) (by exact di hf) (by exact G1 hm hl) hy,ph (b:=T.length) hl hl (VB _)];simp only[VT,Wn,List.cons_append,List.nil_append];rw[show many+1+sp'.length=many+(sp'.length+1) by exact DW]
    ·have:sp'=[]/\o'=false:=by
      induction F using V3 with
      |zero=>cases hy;exact⟨rfl,rfl⟩
      |succ F=>rw[a8]at hy;rw[if_pos (by exact rq (by assumption))]at hy;cases hy;exact⟨rfl,rfl⟩
     obtain⟨rfl,rfl⟩:=this;have ea:e=T.length:=by exact Hw g2 (by assumption)
     subst ea;simp[eE]
def vN(h:spansN T P=some (sp,o)):atP P 0≠41:=fun z=>by
 rw[bM]at h;rw[a8]at h;rw[if_neg (by exact G3),Ir z]at h;injection h
def Cw(hT:T.length<=20)(h20:P.length<=20)(hne:0<P.length)(h:spansN T P=some (sp,o)):replN T (bf P) N2 99 false=if o then none else some (T,sp.length):=by
 have h41:=vN h;rw[bM]at h;have:=kl h20 hne h41 (most:=99) (T.length+2) (T.length+2) 0 0 [] sp o ur me me (G2 hT) h;unfold replN;rw[this];have:cut T 0 T.length=T:=by unfold cut;simp
 rw[this];simp
def mw(hT:T.length<=20)(cs:List cq)(b e:Nat):cG T cs N1 b e:=by
 unfold cG;show cL _ [45,37,48,37,37];rw[dv];rw[if_neg (by decide)];rw[dv];rw[if_pos rfl];refine⟨fun _ v hv=>?_,?_⟩
 ·have hv:some (AV.bytes (cut T (min b T.length) (min e T.length)))=some v:=hv;(injection hv with hv;subst hv);exact i0 _ rfl (V4 fK hT)
 ·rw[dv];rw[if_pos rfl];exact⟨fun h=>absurd h (by decide),trivial⟩
def Hd(cs:List cq):Prop:=∃c,cs[0]?=some c/\c.2≠-2
def Hd.push(h:Hd cs)(c:cq):Hd (cs++[c]):=by
 refine o1 h fun x h1 h2=>?_;exact i0 x (by rw[VF (Vn.mp h1).1];exact h1) h2
def Hd.set(h:Hd cs)(w:CW s cs):Hd (cs.set n ((cs.getD n (0,0)).1,(s:Int)-((cs.getD n (0,0)).1:Int))):=by
 refine o1 h fun x h1 h2=>?_;induction n using V3 with
 |zero=>
  refine i0 (((cs.getD 0 (0,0)).1,(s:Int)-((cs.getD 0 (0,0)).1:Int))) (by rw[W0 (Vn.mp h1).1]) ?_;have:(cs.getD 0 (0,0)).1<=s:=by
   rw[VG,h1];exact(w x (VP h1)).1
  dsimp only;exact OI this
 |succ n=>exact i0 x (by rw[Xa (by exact OJ)];exact h1) h2
set_option tactic.hygienic true in
theorem gR:∀(f s p:Nat) (cs:List cq) (e:Nat) (cs':List cq),s<=T.length->CW s cs->Hd cs->aG T P f s p cs=.ok e cs'->Hd cs'
 |0,s,p,cs,e,cs',hs,hc,hh,h=>by injection h
 |f+1,s,p,cs,e,cs',hs,hc,hh,h=>by
  rw[bW]at h
  split at h
  ·cases h;exact hh
  split at h
  ·split at h
   ·injection h
   ·split at h
    ·exact gR f _ _ _ _ _ hs (hc.push (by decide)) (hh.push _) h
    ·exact gR f _ _ _ _ _ hs (hc.push (by decide)) (hh.push _) h
  split at h
  ·split at h
   ·injection h
   ·exact gR f _ _ _ _ _ hs hc.set (hh.set hc) h
  split at h
  ·split at h
   ·injection h
   ·split at h
    ·injection h
    ·rename_i s' hb;have b1:=AI hb;exact gR f _ _ _ _ _ b1.2 (hc.mono b1.1) hh h
  split at h
  ·injection h
  ·rename_i en hce;have sl:∀i,ar T P i p en=true->i<T.length:=fun i hi=>gW hi;dsimp only at h;have key:∀i,s<=i->i<=T.length->∀q,aG T P f i q cs=.ok e cs'->Hd cs':=fun i h1 h2 q hq=>gR f _ _ _ _ _ h2 (hc.mono h1) hh hq
   split at h
   ·refine o1 (gT _ h) fun i a b=>?_;have:=gS (g:=fun i=>ar T P (s+i) p en) (s:=s) (fun i hi=>sl _ hi) (T.length+1) 0 hs;exact key _ Ie (GA this a) _ b
   split at h
   ·split at h
    ·rename_i hsg;have:=sl _ hsg;refine o1 (gT _ h) fun i a b=>?_;have:=gS (g:=fun i=>ar T P (s+1+i) p en) (s:=s+1) (fun i hi=>sl _ hi) (T.length+1) 0 (GB this);exact key _ uw (GC this a) _ b
    ·injection h
   split at h
   ·refine eD (lK sl _ _ hs h) fun i a b c=>?_;exact key i a b _ c
   split at h
   ·split at h
    ·rename_i hsg;have:=sl _ hsg
     split at h
     ·exact key s (VB _) hs _ h
     ·exact key (s+1) lg (bI this) _ h
    ·exact key s (VB _) hs _ h
   split at h
   ·rename_i hsg;have:=sl _ hsg;exact key (s+1) lg (bI this) _ h
   ·injection h
def EH(hT:T.length<=20)(hne:0<P.length)(h41:atP P 0≠41)(ha:a<=T.length)(h:att T (bf P) a=.ok e cs):cG T cs N2 a e:=by
 have e0:att T (bf P) a=aG T (bf P) (P.length+2) a (0+1) [(a,-1)]:=by
  show aG T (bf P) ((bf P).length+1) a 0 []=_;rw[ck]
  conv=>lhs;rw[bW]
  rw[ck,if_neg (by exact Hm),Hz,if_pos rfl,if_neg (by decide),if_neg (by rw[v8 hne];exact h41)];rfl
 rw[e0]at h;refine o1 (gR _ _ _ _ _ _ ha (fun c hc=>by rw[V8.mp hc];exact⟨VB _,by show(-2:Int)<=-1;decide⟩) (i0 ((a,-1)) rfl (by show(-1:Int)≠-2;decide)) h) fun c h1 h2=>?_;unfold cG;show cL _ [37,49];rw[dv];rw[if_pos rfl];refine⟨fun _ v hv=>?_,trivial⟩;have hv:lq T cs 0 a e=some v:=hv;rw[Iy h1]at hv
 split at hv
 ·injection hv
 ·try rw[if_neg h2]at hv
  (injection hv with hv;subst hv);exact i0 _ rfl (V4 fK hT)
end
section
variable{H H0 H1 H2:AH}{T P:List UInt8}{gl:GL}{n k:Nat}{hn:Bool}{ct:CT}{cl:List Nat}{args:List AV}{Q:QE}{E:AH->Prop}
noncomputable def piecesN:List (List UInt8):=[[97],[45],[37,97],[40],[46],[63],[41],[98],[42],[91,97,98,93],[43],[40,41],[91,94,98,93],[37,98,40,41],[37],[91]]
def wW:piecesN.length=16:=rfl
def zy:∀x∈piecesN,x.length<=4/\0<x.length/\∀b∈x,DP b.toNat=true/\b.toNat≠0:=by decide+kernel
noncomputable def Qt:List UInt8:=[97,98,40,97,41,98]
structure bN(P:List UInt8):Prop where
 len:P.length<=16
 pos:0<P.length
 ok:∀b∈P,DP b.toNat=true/\b.toNat≠0
def bN.pat(h:bN P):bP P:=⟨by have:=h.len;exact Ho this,h.ok⟩
def bN.wrap(h:bN P):bP (bf P):=by
 refine⟨by rw[ck];have:=h.len;exact OK this,fun b hb=>?_⟩;unfold bf at hb;rcases Vv.mp hb with rfl|hb
 ·decide
 ·rcases Vs.mp hb with hb|hb
  ·exact h.ok b hb
  ·rw[V8.mp hb];decide
theorem rZ:∀(l:List (List UInt8)),(∀x∈l,x∈piecesN)->(l.flatten).length<=4*l.length/\(∀b∈l.flatten,DP b.toNat=true/\b.toNat≠0)/\(0<l.length->0<l.flatten.length)
 |[],_=>by simp
 |x::r,h=>by
  refine qX (rZ r fun y hy=>h y (Vj _ hy)) fun a1 a2 a3=>?_;refine qX (zy x (h x (Vl ..))) fun b1 b2 b3=>?_;refine⟨by rw[Xc,VH,VT];exact OL a1 b1,fun b hb=>?_,fun _=>by rw[Xc,VH];exact OM b2⟩;rw[Xc]at hb;rcases Vs.mp hb with hb|hb
  ·exact b3 b hb
  ·exact a2 b hb
end
section
variable{H H0 H1 H2:AH}{T P:List UInt8}{gl:GL}{n k:Nat}{hn:Bool}{ct:CT}{cl:List Nat}{args:List AV}{Q:QE}{E:AH->Prop}{loc:aM}
structure ud(H:AH)(c0 bag sl a:Nat):Prop where
 c:H[c0]?=some (.cell (some (.ref bag)))
 b:H[bag]?=some (.dict [(8,.ref sl),(9,.int a)])
 l:∃xs:List Int,H[sl]?=some (.list (xs.map AV.int))/\xs.length<=20
def ud.told(B:ud H c0 bag sl a)(ha:a<=100)(hm:0<many)(hk:k<=n)(h1:1<=k)(q:∀(v:Nat) H',v<many->ud H' c0 bag sl (a+1)->Fr (fun i=>i=bag) H H'->Q (.int v) H'):
  cF (Gm gl n) k hn 308 [.ref bag,.int many] H Q E:=by
 refine o1 B.l fun xs h2 h3=>?_;refine au hk ⟨bag,sl,a,many,xs,rfl,B.b,h2,h3,ha,hm,h1,fun v hv _=>?_⟩;refine q v _ hv ⟨?_,dy B.b,xs,?_,h3⟩ Fr.set
 ·rw[aV (fun z=>by have:=B.c;rw[z,B.b]at this;cases this)];exact B.c
 ·rw[aV (fun z=>by rw[z,B.b]at h2;cases h2)];exact h2
def ud.ext(B:ud H c0 bag sl a)(x:a9 H H1):ud H1 c0 bag sl a:=by
 refine o1 B.l fun xs h2 h3=>?_;exact⟨x.keep _ _ B.c fun z=>z,x.keep _ _ B.b fun z=>z,xs,x.keep _ _ h2 fun z=>z,h3⟩
theorem pW{S:AV->Prop}(hf:∀u H a (Q2:QE),ud H c0 bag sl a->a<=100->(∀v H',ud H' c0 bag sl (a+1)->Fr (fun i=>i=bag) H H'->S v->Q2 v H')->f u H Q2):
  ∀(l acc:List AV)(H:AH)(a:Nat)(K:List AV->AH->Prop),ud H c0 bag sl a->a+l.length<=100->(∀x∈acc,S x)->
   (∀vs H',ud H' c0 bag sl (a+l.length)->Fr (fun i=>i=bag) H H'->(∀x∈vs,S x)->vs.length=acc.length+l.length->K vs H')->
   bt (fun _=>True) (fun _ H2 Q2=>Q2 true H2) f l acc H K
 |[],acc,H,a,K,B,ha,hs,hK=>hK acc H B (Fr.refl _) hs rfl
 |x::l,acc,H,a,K,B,ha,hs,hK=>by
  rw[VT]at ha hK;rw[jr];refine(if_pos rfl).mpr ?_;refine hf x H a _ B (ON ha) fun v H' B' F hv=>⟨trivial,?_⟩
  refine pW hf l (acc++[v]) H' (a+1) K B' (OO ha) (fun y hy=>?_) fun vs H2 B2 F2 hvs hl=>?_
  ·rcases Vs.mp hy with z|z
   ·exact hs y z
   ·rw[V8.mp z];exact hv
  ·exact hK vs H2 (by rw[show a+(l.length+1)=a+1+l.length by exact Nq];exact B2) (F.trans F2) hvs (by rw[hl];simp;exact DW)
def Bt:(∀x∈l,∃c:UInt8,x=.int (c.toNat:Int))->∃T:List UInt8,hV l=some T/\T.length=l.length:=by
 induction l with
 |nil=>intro _;exact i0 ([]) rfl rfl
 |cons x r ih=>
  intro h;refine o1 (ih fun y hy=>h y (Vj _ hy)) fun T h1 h2=>?_;refine cX x (h x (Vl ..)) fun c=>?_;have:=c.toNat_lt;refine i0 (c::T) ?_ (by simp[h2]);rw[ry,if_pos ⟨by exact Gz,by omega⟩,h1,WH];simp
def ER:(∀x∈l,∃b,x=.bytes b/\b∈piecesN)->∃ps:List (List UInt8),nM l=some ps.flatten/\ps.length=l.length/\∀x∈ps,x∈piecesN:=by
 induction l with
 |nil=>intro _;exact i8 ([]) rfl rfl (fun x hx=>by cases hx)
 |cons x r ih=>
  intro h;refine eD (ih fun y hy=>h y (Vj _ hy)) fun ps h1 h2 h3=>?_;refine wV x (h x (Vl ..)) fun b hb=>?_;refine i8 (b::ps) ?_ (by simp[h2]) (fun y hy=>?_)
  ·rw[u5,h1];simp
  ·rcases Vv.mp hy with rfl|hy
   ·exact hb
   ·exact h3 y hy
end
section
variable{H H0 H1 H2:AH}{T P news:List UInt8}{gl:GL}{n k:Nat}{hn:Bool}{ct:CT}{cl:List Nat}{args:List AV}{Q:QE}{E:AH->Prop}{loc:aM}
def nu(hk:k<=n)(h1:95<=k)(hP:bP P)(hn5:news.length<=5)(hT:T.length<=20)(fine:∀a e cs,a<=T.length->att T P a=.ok e cs->cG T cs news a e)
  (q:match replN T P news most bound with|none=>∀H',a9 H H'->Q .none H'|some (x,m)=>∀H' t,a9 H H'->H'[t]?=some (.tup [.bytes x,.int m])->Q (.ref t) H'):
  cF (fQ gl n) k hn 329 [.bytes T,.bytes P,.bytes news,.int most,.bool bound] H Q E:=by
 refine pP hk ⟨most,bound,T,P,news,rfl,hP,h1,hn5,hT,fine,?_⟩;induction hr:replN T P news most bound using Option.casesOn with
 |none=>rw[hr]at q;exact fun H' x _=>q H' x
 |some y=>rw[hr]at q;exact fun H' t x ht _=>q H' t x ht
def sJ(hk:k<=n)(h1:1<=k)(S:aD H l sp)(hs:sp.length<=30)(hT:T.length<=20)(q:∀H' t,a9 H H'->H'[t]?=some (.tup [.bytes (mO T sp),.int sp.length])->Q (.ref t) H'):
  cF (Gm gl n) k true 343 [.bytes T,.ref l] H Q E:=
 au hk ⟨l,T,sp,rfl,S,hs,hT,rfl,h1,fun H' t x ht _=>q H' t x ht⟩
def Cc{Q:Bool->Prop}(h1:H[t1]?=some (.tup [.bytes x,.int m]))(h2:H[t2]?=some (.tup [.bytes x,.int m]))(q:Q true):Rm (.ref t1) (.ref t2) H Q:=by
 refine .tt _ _ _ _ _ _ h1 h2 fun b hb=>?_;rw[show b=true from hb.mpr ⟨rfl,rfl⟩];exact q
def tA{X Y:Prop}(h1:H[t1]?=some (.tup [.bytes x,.int m]))(h2:H[t2]?=some (.tup [.bytes x,.int m]))(q:Y):bQ .ne (.ref t1) (.ref t2) H (fun c=>if c=true then X else Y):=
 .ne rfl (Cc (Q:=fun c=>if(!c)=true then X else Y) h1 h2 q)
def E7(q:Y):bQ .ne .none .none H (fun c=>if c=true then X else Y):=.ne rfl (.nn q)
def ED{Q:Bool->Prop}(h1:H[t1]?=some (.tup [.bytes x,.int m]))(h2:H[t2]?=some (.tup [.bytes x,.int m]))(q:Q true):bQ .eq (.ref t1) (.ref t2) H Q:=.eq rfl (Cc h1 h2 q)
def aD.take(S:aD H l sp)(hl:∀ts:List Nat,H[l]?=some (.list (ts.map AV.ref))->H1[l']?=some (.list ((ts.take m).map AV.ref)))(x:a9 H H1):aD H1 l' (sp.take m):=by
 refine eD S fun ts a b c=>?_;refine i8 (ts.take m) (hl ts a) (by simp[b]) (fun i t y h1 h2=>?_);rw[YJ]at h1 h2
 split at h1
 ·rename_i hi;rw[if_pos hi]at h2;exact x.keep _ _ (c i t y h1 h2) fun z=>z
 ·injection h1
def aD.drop(S:aD H l sp)(hl:∀ts:List Nat,H[l]?=some (.list (ts.map AV.ref))->H1[l']?=some (.list ((ts.drop m).map AV.ref)))(x:a9 H H1):aD H1 l' (sp.drop m):=by
 refine eD S fun ts a b c=>?_;refine i8 (ts.drop m) (hl ts a) (by simp[b]) (fun i t y h1 h2=>?_);rw[ZD]at h1 h2;exact x.keep _ _ (c _ t y h1 h2) fun z=>z
def vK(S:aD H l sp)(hz:sp.length<=30)(q:∀H',a9 H H'->aD H' H.length (sp.take m)->Q (.ref H.length) H'):qR gl (.ref l) .none (.int (m:Int)) H Q:=by
 refine eD (id S) fun ts a b c=>?_;refine .li 0 _ _ _ rfl rfl a (by rw[VI,b];show _<=4096;exact Hp hz) sX ?_;have e:cut (ts.map AV.ref) (min 0 (ts.map AV.ref).length) (min m (ts.map AV.ref).length)=(ts.take m).map AV.ref:=by
  unfold cut;rw[VI];simp[List.map_take]
 rw[e];refine q _ (a9.app _ _) (S.take (fun ts' h=>?_) (a9.app _ _));rw[a]at h;have:ts'=ts:=by
  injection(XE h)with this;exact(List.map_inj_right (fun x y z=>by injection z)).mp this.symm
 rw[this];exact aB _ _
end
section
variable{H H0 H1 H2:AH}{T P news:List UInt8}{gl:GL}{n k:Nat}{hn:Bool}{ct:CT}{cl:List Nat}{args:List AV}{Q:QE}{E:ES}{loc:aM}
def uQ(hp:p<=T.length):cut T (min p T.length) T.length=T.drop p:=by
 unfold cut;rw[WJ hp,WZ (by simp)]
def TY(hk:k<=n)(h1:95<=k)(hP:bN P)(hT:T.length<=20)(hp:past<=T.length)(S:aD H l50 sp')(hs:sp'.length<=30)(hc1:H[c1]?=some (.cell (some (.int past))))
  (l8:lk 8 loc=some (.bytes T))(l9:lk 9 loc=some (.bytes P))(l33:lk 33 loc=some (.bytes N1))(l50':lk 50 loc=some (.ref l50))(hr:replN (T.drop past) P N1 99 false=some (mO (T.drop past) sp',sp'.length))
  (q:∀H',Q (.bool true) H'):aA (Gm gl n) (fQ gl n) ct [c0,c1] k true iz loc H (rQ Q) E:=by
 o_facts iz;simp only[l8,l9,l33,l50',hc1];have hTd:(T.drop past).length<=20:=by simp;exact He hT
 refine m7 (dh hT) ?_;rw[uQ hp];refine nu (most:=99) hk h1 hP.pat (by decide) hTd (fun a e cs _ _=>mw hTd cs a e) ?_;rw[hr];intro H' t x ht;simp only[x.keep _ _ hc1 (fun z=>z)];refine m7 (dh hT) ?_;rw[uQ hp];refine sJ hk (pH h1) (S.ext x) hs hTd fun H2 t2 x2 ht2=>?_;exact ED (x2.keep _ _ ht fun z=>z) ht2 (q _)
def eI(H:AH)(ts:List Nat)(sp:List bR):Prop:=ts.length=sp.length/\∀(i t:Nat) (x:bR),ts[i]?=some t->sp[i]?=some x->H[t]?=some (.tup [.int x.1,.int x.2])
def eI.ext(h:eI H ts sp)(x:a9 H H1):eI H1 ts sp:=⟨h.1,fun i t y a b=>x.keep _ _ (h.2 i t y a b) fun z=>z⟩
def eI.snoc(h:eI H ts sp)(ht:H[t]?=some (.tup [.int x.1,.int x.2])):eI H (ts++[t]) (sp++[x]):=by
 refine⟨by simp[h.1],fun i t' y h1 h2=>?_⟩;rcases Xd i ts.length with z|z
 ·rw[VF z]at h1;rw[VF (by rw[←h.1];exact z)]at h2;exact h.2 i t' y h1 h2
 ·have hi:i=ts.length:=by
   have:=(Vn.mp h1).1;simp at this;exact xF this z
  subst hi;rw[Vm (VB _)]at h1;rw[Vm (by rw[h.1];exact VB _),h.1]at h2;simp at h1 h2;subst h1;subst h2;exact ht
theorem rD{c0 c1 i0 past:Nat}:∀(ts:List Nat)(sp':List bR)(accT:List Nat)(accS:List bR)(H:AH)(K:List AV->AH->Prop),eI H ts (Df past sp')->H[i0]?=some (.list xs)->H[c1]?=some (.cell (some (.int past)))->eI H accT accS->
  (∀ts2 H',a9 H H'->eI H' ts2 (accS++sp')->K (ts2.map AV.ref) H')->
  bt (fun H2=>H2[i0]?=some (.list xs)) (fun _ H2 Q2=>Q2 true H2) (fun u H2 Q2=>mT u H2 (fun a b=>ae (Gm gl n) [c0,c1] k true [(22,a),(4,b)] (IE.tup
                 (IEs.cons
                  (IE.bin (xn.sub) (IE.loc 22) (IE.cel 1))
                  (IEs.cons
                   (IE.bin (xn.sub) (IE.loc 4) (IE.cel 1))
                   (IEs.nil)))) H2 Q2 E0)) (ts.map AV.ref) (accT.map AV.ref) H K
 |[],sp',accT,accS,H,K,ht,hi,hc,ha,hK=>by
  have:sp'=[]:=by
   have:=ht.1;induction sp' using Vr with
   |nil=>rfl
   |cons=>simp[Df]at this
  subst this;exact hK accT H (Fr.refl _) (by rw[VW];exact ha)
 |t::ts,[],accT,accS,H,K,ht,hi,hc,ha,hK=>by have:=ht.1;simp[Df]at this
 |t::ts,(b,e)::sp',accT,accS,H,K,ht,hi,hc,ha,hK=>by
  have h0:=ht.2 0 t (b+past,e+past) rfl rfl;have htl:eI H ts (Df past sp'):=⟨by have:=ht.1;simpa [Df]using this,fun i t' y h1 h2=>ht.2 (i+1) t' y (by simpa using h1) (by simpa [Df]using h2)⟩
  rw[VL];rw[jr];refine(if_pos rfl).mpr ?_;refine⟨_,_,_,rfl,h0,?_⟩;simp only[BZ,xP,B0,BY,nA,wq,wK,jP,Nat.reduceEqDiff,if_false,XU,List.getElem?_cons_zero,hc];refine cK ?_;simp only[hc];refine cK ?_;refine⟨by show 2<=4096;decide,aQ hi,?_⟩;have e1:(((b+past:Nat):Int)-(past:Int))=(b:Int):=by exact Hq
  have e2:(((e+past:Nat):Int)-(past:Int))=(e:Int):=by exact Hq
  rw[e1,e2];have x:=a9.app H [AO.tup [.int (b:Int),.int (e:Int)]];have:=rD (c0:=c0) (E0:=E0) ts sp' (accT++[H.length]) (accS++[(b,e)]) _ K (htl.ext x) (x.keep _ _ hi fun z=>z) (x.keep _ _ hc fun z=>z) ((ha.ext x).snoc (x:=(b,e)) (aB _ _)) (fun ts2 H' x' h2=>hK ts2 H' (x.trans x') (by simpa using h2));rw[Yq]at this;simp only[BZ,xP,B0,BY,nA,wq,wK,jP,Nat.reduceBEq,cond_true,cond_false,XU,List.getElem?_cons_zero]at this;exact this
def vJ{l m:Nat}{ts:List Nat}(a:H[l]?=some (.list (ts.map AV.ref)))(hz:ts.length<=30)(q:Q (.ref H.length) (H++[.list ((ts.drop m).map AV.ref)])):qR gl (.ref l) (.int (m:Int)) .none H Q:=by
 refine .li m _ _ _ ti rfl a (by rw[VI];show _<=4096;exact Hp hz) rfl ?_;have e:cut (ts.map AV.ref) (min m (ts.map AV.ref).length) (ts.map AV.ref).length=(ts.drop m).map AV.ref:=by
  unfold cut;rw[VI,List.map_drop];rcases Nat.le_total m ts.length with h|h
  ·rw[WJ h,WZ (by simp)]
  ·rw[Nat.min_eq_right h,W2 (by simp),W2 (by simpa using h)];simp
 rw[e];exact q
def TX{c0 c1 l past few:Nat}{sp sp':List bR}(hk:k<=n)(h1:95<=k)(hP:bN P)(hT:T.length<=20)(hp:past<=T.length)(S:aD H l sp)(hs:sp.length<=30)(hd:sp.drop few=Df past sp')(hc1:H[c1]?=some (.cell (some (.int past))))
  (l8:lk 8 loc=some (.bytes T))(l9:lk 9 loc=some (.bytes P))(l33:lk 33 loc=some (.bytes N1))(l44:lk 44 loc=some (.ref l))(l48:lk 48 loc=some (.int few))(hr:replN (T.drop past) P N1 99 false=some (mO (T.drop past) sp',sp'.length))
  (q:∀H',Q (.bool true) H'):aA (Gm gl n) (fQ gl n) ct [c0,c1] k true lQ loc H (rQ Q) E:=by
 refine eD S fun ts t1 t2 t3=>?_;have hl':sp'.length<=30:=by have:=congrArg List.length hd;simp[Df]at this;exact OP this hs
 o_facts lQ;rw[l44,l48];refine vJ t1 (OQ t2 hs) ?_;refine⟨_,_,rfl,aB _ _,trivial,by simp;exact OS t2 hs,by decide,?_⟩;have x:=a9.app H [AO.list ((ts.drop few).map AV.ref)];have td:eI (H++[AO.list ((ts.drop few).map AV.ref)]) (ts.drop few) (Df past sp'):=by
  rw[←hd];exact⟨by simp[t2],fun i t y a b=>by
   rw[ZD]at a b;exact x.keep _ _ (t3 _ t y a b) fun z=>z⟩
 have:=rD (gl:=gl) (n:=n) (k:=k) (c0:=c0) (i0:=H.length) (E0:=E loc) (ts.drop few) sp' [] [] _ (fun vs H2=>aA (Gm gl n) (fQ gl n) ct [c0,c1] k true iz (st 50 (.ref H2.length) loc) (H2++[.list vs]) (rQ Q) E) td (aB _ _) (x.keep _ _ hc1 fun z=>z) ⟨rfl,fun i t y a=>by cases a⟩ (fun ts2 H' x' ht2=>?_)
 ·exact this
 ·have X:=(x.trans x').trans (a9.app H' [.list (ts2.map AV.ref)]);refine TY (sp':=sp') (past:=past) (l50:=H'.length) hk h1 hP hT hp (i8 ts2 (aB _ _) ht2.1 (fun i t y a b=>aQ (ht2.2 i t y a b))) hl' (X.keep _ _ hc1 fun z=>z) ?_ ?_ ?_ ?_ hr q
  all_goals simp [aP,l8,l9,l33]
def QX{c0 c1 l few:Nat}{sp:List bR}{odd:Bool}(hk:k<=n)(h1:95<=k)(hP:bN P)(hT:T.length<=20)(h:spansN T P=some (sp,odd))(hf:few<=sp.length)(S:aD H l sp)(hc1:H[c1]?=some (.cell (some (.int (pastN sp few:Nat)))))
  (l8:lk 8 loc=some (.bytes T))(l9:lk 9 loc=some (.bytes P))(l33:lk 33 loc=some (.bytes N1))(l44:lk 44 loc=some (.ref l))(l48:lk 48 loc=some (.int few))
  (q:∀H',Q (.bool true) H'):aA (Gm gl n) (fQ gl n) ct [c0,c1] k true lP loc H (rQ Q) E:=by
 have hs:=cg h;o_facts lP;simp only[l8,l44,l48,hc1];refine len_bytes (dh hT) ?_;refine cZ (fun hgt=>?_) (fun hgt=>?_)
 ·have hgt:T.length<pastN sp few:=by simp[bk]at hgt;exact uz hgt
  have hd:=th h hf hgt;refine eD S fun ts t1 t2 t3=>?_;refine vJ t1 (OT t2 hs hT) ?_;have te:ts.drop few=[]:=Yo (by have:=congrArg List.length hd;simp at this⊢;exact OU this t2);rw[te];refine⟨Wy _,?_⟩;have g1:((H++[AO.list ([].map AV.ref)])++[AO.list []])[H.length]?=some (.list []):=aQ (aB _ _);have g2:((H++[AO.list ([].map AV.ref)])++[AO.list []])[(H++[AO.list ([].map AV.ref)]).length]?=some (.list []):=aB _ _;exact .eq rfl (DK.ll _ _ _ g1 g2 (Wy _) (q _))
 ·have hgt:pastN sp few<=T.length:=by simp[bk]at hgt;exact qZ hgt
  refine o1 (Cv hT h hf hgt) fun sp' hd hr=>?_;exact TX hk h1 hP hT hgt S (ro hs hT) hd hc1 l8 l9 l33 l44 l48 hr q
def uY(S:aD H l sp)(hs:sp.length<=30)(hi:i<sp.length)(q:∀t,H[t]?=some (.tup [.int (sp.getD i (0,0)).1,.int (sp.getD i (0,0)).2])->Q (.ref t) H):qd gl (.ref l) (.int (i:Int)) H Q:=by
 refine eD S fun ts t1 t2 t3=>?_;have h1:ts[i]?=some ts[i]:=Vw (OV hi t2);refine .sq _ _ (.ref ts[i]) rfl (.li _ rfl t1) (Ws _) (by rw[VI];show _<=4096;exact GH t2 hs) (by rw[WH,Ww,h1];rfl) (q _ ?_);rw[VG,Vw hi];exact t3 i _ _ h1 (Vw hi)
def aD.cell{l c:Nat}{sp:List bR}{v:Option AV}{o:AO}(S:aD H l sp)(hc:H[c]?=some (.cell v)):aD (H.set c o) l sp:=by
 refine eD S fun ts a b d=>?_;refine i8 ts ?_ b (fun i t x h1 h2=>?_)
 ·rw[aV (fun z=>by rw[z,hc]at a;cases a)];exact a
 ·have:=d i t x h1 h2;rw[aV (fun z=>by rw[z,hc]at this;cases this)];exact this
def QW(hc:H[c0]?=some (.cell o))(q:X (H.set c0 (.cell (some v)))):m6 (c0::l) 0 v H X:=⟨_,_,rfl,hc,q⟩
def vH(hc:H[c1]?=some (.cell o))(q:X (H.set c1 (.cell (some v)))):m6 (c0::c1::l) 1 v H X:=⟨_,_,rfl,hc,q⟩
def TV{c0 c1 l few:Nat}{v0:Option AV}{sp:List bR}{odd:Bool}(hk:k<=n)(h1:95<=k)(hP:bN P)(hT:T.length<=20)(h:spansN T P=some (sp,odd))(hf:few<=sp.length)(S:aD H l sp)(hc1:H[c1]?=some (.cell v0))
  (l8:lk 8 loc=some (.bytes T))(l9:lk 9 loc=some (.bytes P))(l33:lk 33 loc=some (.bytes N1))(l44:lk 44 loc=some (.ref l))(l48:lk 48 loc=some (.int few))
  (q:∀H',Q (.bool true) H'):aA (Gm gl n) (fQ gl n) ct [c0,c1] k true lO loc H (rQ Q) E:=by
 have hs:=cg h;o_facts lO;simp only[l8,l44,l48];refine cZ (fun hgt=>?_) (fun hgt=>?_)
 ·have hgt:0<few:=by simp[bk]at hgt;exact OW hgt
  have e1:((few:Int)-1)=((few-1:Nat):Int):=by exact OX hgt
  refine cK ?_;rw[e1];refine uY S (ro hs hT) (Hr e1 hf) fun t ht=>mx ht (cK ?_);rw[e1];refine uY S (ro hs hT) (Hr e1 hf) fun t ht=>qg ht ?_;refine au hk ⟨_,_,rfl,by exact pH h1,fun _=>?_⟩;refine vH hc1 ?_;have ep:behindN (sp.getD (few-1) (0,0)).1 (sp.getD (few-1) (0,0)).2=pastN sp few:=by unfold pastN;rw[if_pos hgt]
  rw[ep];exact QX hk h1 hP hT h hf (S.cell hc1) (dy hc1) l8 l9 l33 l44 l48 q
 ·have hgt:few=0:=by simp[bk]at hgt;exact As hgt
  refine vH hc1 ?_;subst hgt;exact QX hk h1 hP hT h hf (S.cell hc1) (dy hc1) l8 l9 l33 l44 l48 q
def Vf(hk:k<=n)(h1:95<=k)(hP:bN P)(hT:T.length<=20)(h:spansN T P=some (sp,odd))(hf:few<=sp.length)(S:aD H l sp)(hc1:H[c1]?=some (.cell v0))
  (l8:lk 8 loc=some (.bytes T))(l9:lk 9 loc=some (.bytes P))(l33:lk 33 loc=some (.bytes N1))(l44:lk 44 loc=some (.ref l))(l48:lk 48 loc=some (.int few))
  (q:∀H',Q (.bool true) H'):aA (Gm gl n) (fQ gl n) ct [c0,c1] k true nZ loc H (rQ Q) E:=by
 have hs:=cg h;o_facts nZ;simp only[l8,l9,l33,l44,l48];refine nu hk h1 hP.pat (by decide) hT (fun a e cs _ _=>mw hT cs a e) ?_;rw[yd h];intro H' t x ht;refine vK (S.ext x) (ro hs hT) fun H2 x2 S2=>?_;refine sJ hk (pH h1) S2 (by simp;omega) hT fun H3 t3 x3 ht3=>?_;refine tA (x3.keep _ _ (x2.keep _ _ ht fun z=>z) fun z=>z) ht3 ?_;have X:=(x.trans x2).trans x3;exact TV hk h1 hP hT h hf (S.ext X) (X.keep _ _ hc1 fun z=>z) l8 l9 l33 l44 l48 q
def aD.dict(S:aD H l sp)(hc:H[c]?=some (.dict es))(F:Fr (fun i=>i=c) H H1):aD H1 l sp:=S.fr hc F
def Uy(hk:k<=n)(h1:95<=k)(hP:bN P)(hT:T.length<=20)(h:spansN T P=some (sp,odd))(B:ud H c0 bag sl a)(ha:a<=100)(S:aD H l sp)(hc1:H[c1]?=some (.cell v0))
  (l8:lk 8 loc=some (.bytes T))(l9:lk 9 loc=some (.bytes P))(l33:lk 33 loc=some (.bytes N1))(l44:lk 44 loc=some (.ref l))
  (q:∀H',Q (.bool true) H'):aA (Gm gl n) (fQ gl n) ct [c0,c1] k true nY loc H (rQ Q) E:=by
 have hs:=cg h;o_facts nY;simp only[l44,B.c];refine eD (id S) fun ts t1 t2 t3=>?_;refine .li _ _ rfl t1 (by rw[VI];show _<=4096;exact Hs t2 hs hT) (hO ?_);rw[VI,t2];refine B.told (many:=sp.length+1) ha G' hk (pH h1) fun v H' hv B' F=>?_;refine Vf (few:=v) hk h1 hP hT h (OZ hv) (S.fr B.b F) (F.keep _ _ hc1 fun z=>by rw[z,B.b]at hc1;cases hc1) ?_ ?_ ?_ ?_ ?_ q
 all_goals simp [aP,l8,l9,l33,l44]
def Ve(hk:k<=n)(h1:95<=k)(hP:bN P)(hT:T.length<=20)(h:spansN T P=some (sp,odd))(B:ud H c0 bag sl a)(ha:a<=100)(S:aD H l sp)(hc1:H[c1]?=some (.cell v0))
  (l8:lk 8 loc=some (.bytes T))(l9:lk 9 loc=some (.bytes P))(l33:lk 33 loc=some (.bytes N1))(l44:lk 44 loc=some (.ref l))(l45:lk 45 loc=some (.bool odd))
  (q:∀H',Q (.bool true) H'):aA (Gm gl n) (fQ gl n) ct [c0,c1] k true ki loc H (rQ Q) E:=by
 have hs:=cg h;have hz:=hP.len;o_facts ki;simp only[l8,l9,l44,l45];refine hU (by simp;exact O0 hz) (hU (by simp;exact O1 hz) ?_);have ew:([40]++P)++[41]=bf P:=rfl;rw[ew];refine nu (news:=N2) hk h1 hP.wrap (by decide) hT (fun a e cs ha hm=>EH hT hP.pos (vN h) ha hm) ?_;rw[Cw hT (Ho hz) hP.pos h];induction odd using Vu with
 |true=>
  intro H' x;exact bJ (fun _=>E7 (Uy hk h1 hP hT h (B.ext x) ha (S.ext x) (x.keep _ _ hc1 fun z=>z) l8 l9 l33 l44 q)) (fun h=>V2 h)
 |false=>
  intro H' t x ht;refine eD (id (S.ext x)) fun ts t1 t2 t3=>?_;refine bJ (fun h=>V2 h) (fun _=>?_);refine .li _ _ rfl t1 (by rw[VI];show _<=4096;exact Hs t2 hs hT) ⟨by show 2<=4096;decide,?_⟩;rw[VI,t2];have X:=x.trans (a9.app H' [.tup [.bytes T,.int sp.length]]);exact tA (aQ ht) (aB _ _) (Uy hk h1 hP hT h (B.ext X) ha (S.ext X) (X.keep _ _ hc1 fun z=>z) l8 l9 l33 l44 q)
def Vd(hk:k<=n)(h1:95<=k)(hP:bN P)(hT:T.length<=20)(h:spansN T P=some (sp,odd))(B:ud H c0 bag sl a)(ha:a<=100)(S:aD H l sp)(hc1:H[c1]?=some (.cell v0))
  (l8:lk 8 loc=some (.bytes T))(l9:lk 9 loc=some (.bytes P))(l33:lk 33 loc=some (.bytes N1))(l44:lk 44 loc=some (.ref l))(l45:lk 45 loc=some (.bool odd))
  (q:∀H',Q (.bool true) H'):aA (Gm gl n) (fQ gl n) ct [c0,c1] k true nX loc H (rQ Q) E:=by
 have hs:=cg h;have hb:(du sp).length<=30:=by
  have:(du sp).length<=(sp.take 1).length:=List.length_filter_le _ _;simp at this;omega
 o_facts nX;rw[l8,l9,l33,l44];refine nu hk h1 hP.pat (by decide) hT (fun a e cs _ _=>mw hT cs a e) ?_;rw[zt h];intro H' t x ht;have S':=S.ext x;refine vK (m:=1) S' (ro hs hT) fun H2 x2 S2=>?_;refine eD S2 fun ts t1 t2 t3=>?_;have done:∀(H3:AH) (lb:Nat),a9 H2 H3->aD H3 lb (du sp)->cF (Gm gl n) k true 343 [.bytes T,.ref lb] H3 (fun b H2=>bQ .ne (.ref t) b H2 fun c=>if c=true then rQ Q (.ret (.bool false)) loc H2 else aA (Gm gl n) (fQ gl n) ct [c0,c1] k true ki loc H2 (rQ Q) E) (E loc):=by
  intro H3 lb x3 S3;refine sJ hk (pH h1) S3 hb hT fun H4 t4 x4 ht4=>?_;have X:=(x2.trans x3).trans x4;refine tA (X.keep _ _ ht fun z=>z) ht4 ?_;have X':=x.trans X;exact Ve hk h1 hP hT h (B.ext X') ha (S.ext X') (X'.keep _ _ hc1 fun z=>z) l8 l9 l33 l44 l45 q
 induction sp using Vr with
 |nil=>
  have te:ts=[]:=Yo (by simpa using t2);subst te;refine⟨_,_,rfl,t1,trivial,by simp,?_⟩;exact done _ _ (a9.app _ _) (i8 ([]) (aB _ _) rfl (fun i t y z=>by cases z))
 |cons y r=>
  obtain⟨b,e⟩:=y;obtain⟨t0,rfl⟩:∃t0,ts=[t0]:=by
   match ts,t2 with
   |[t0],_=>exact i4 t0 rfl
  have ht0:=t3 0 t0 (b,e) rfl rfl;refine⟨_,_,rfl,t1,trivial,by simp,?_⟩;rw[VL,jr];simp only[Y9,IR,II,nA,IJ,wK,jP,Nat.reduceBEq,cond_true,cond_false];refine mx ht0 ?_;refine cZ (fun hc=>?_) (fun hc=>?_)
  ·have hc:b=0:=by simp[bk]at hc;exact As hc
   subst hc;refine⟨t1,?_⟩;exact done _ _ (a9.app _ _) (i8 ([t0]) (aB _ _) rfl (fun i t y z1 z2=>aQ (t3 i t y z1 (by
    have:du ((0,e)::r)=[(0,e)]:=by unfold du;simp
    rw[this]at z2;exact z2))))
  ·have hc:b≠0:=by simp[bk]at hc;exact O2 hc
   refine⟨t1,?_⟩;have:du ((b,e)::r)=[]:=by unfold du;simp[hc]
   exact done _ _ (a9.app _ _) (i8 ([]) (aB _ _) (by rw[this];rfl) (fun i t y z=>by cases z))
def Vc(hk:k<=n)(h1:95<=k)(hP:bN P)(hT:T.length<=20)(h:spansN T P=some (sp,odd))(B:ud H c0 bag sl a)(ha:a<=100)(S:aD H l sp)(hc1:H[c1]?=some (.cell v0))
  (l8:lk 8 loc=some (.bytes T))(l9:lk 9 loc=some (.bytes P))(l33:lk 33 loc=some (.bytes N1))(l44:lk 44 loc=some (.ref l))(l45:lk 45 loc=some (.bool odd))
  (q:∀H',Q (.bool true) H'):aA (Gm gl n) (fQ gl n) ct [c0,c1] k true nW loc H (rQ Q) E:=by
 have hs:=cg h;o_facts nW;rw[l8,l9,l33,l44];refine nu hk h1 hP.pat (by decide) hT (fun a e cs _ _=>mw hT cs a e) ?_;rw[yc hT h];intro H' t x ht;refine sJ hk (pH h1) (S.ext x) (ro hs hT) hT fun H2 t2 x2 ht2=>tA (x2.keep _ _ ht fun z=>z) ht2 ?_;have X:=x.trans x2;exact Vd hk h1 hP hT h (B.ext X) ha (S.ext X) (X.keep _ _ hc1 fun z=>z) l8 l9 l33 l44 l45 q
def Vb(hk:k<=n)(h1:100<=k)(hP:bN P)(hT:T.length<=20)(B:ud H c0 bag sl a)(ha:a<=100)(hc1:H[c1]?=some (.cell v0))
  (l8:lk 8 loc=some (.bytes T))(l9:lk 9 loc=some (.bytes P))(l33:lk 33 loc=some (.bytes N1))
  (q:∀H',Q (.bool true) H'):aA (Gm gl n) (fQ gl n) ct [c0,c1] k true nV loc H (rQ Q) E:=by
 o_facts nV;rw[l8,l9,l33];refine⟨trivial,au hk ⟨T,P,rfl,hP.pat,hT,rfl,h1,?_⟩⟩;induction h:spansN T P using Option.casesOn with
 |none=>
  intro H' x _;refine nu hk (Hu h1) hP.pat (by decide) hT (fun a e cs _ _=>mw hT cs a e) ?_;rw[EY hT h];exact fun H2 _=>q H2
 |some y=>
  obtain⟨sp,odd⟩:=y;intro H' t l x ht S _;refine⟨_,_,rfl,ht,rfl,by decide,?_⟩;refine Vc (l:=l) (odd:=odd) hk (Hu h1) hP hT h (B.ext x) ha S (x.keep _ _ hc1 fun z=>z) ?_ ?_ ?_ ?_ ?_ q
  all_goals simp [aP,l8,l9,l33]
def Va(hk:k<=n)(h1:100<=k)(hP:bN P)(hT:T.length<=20)(B:ud H c0 bag sl a)(ha:a<=100)(hc1:H[c1]?=some (.cell v0))
  (l8:lk 8 loc=some (.bytes T))(l9:lk 9 loc=some (.bytes P))
  (q:∀H',Q (.bool true) H'):aA (Gm gl n) (fQ gl n) ct [c0,c1] k true nU loc H (rQ Q) E:=by
 o_facts nU;refine Vb hk h1 hP hT B ha hc1 ?_ ?_ ?_ q
 all_goals simp [aP,l8,l9,N1]
def U'{c0 c1 bag sl a:Nat}{v0:Option AV}(hk:k<=n)(h1:100<=k)(hT:T.length<=20)(B:ud H c0 bag sl a)(ha:a<=50)(hc1:H[c1]?=some (.cell v0))(g301:gl 301=some (piecesN.map AV.bytes))
  (l8:lk 8 loc=some (.bytes T))
  (q:∀H',Q (.bool true) H'):aA (Gm gl n) (fQ gl n) ct [c0,c1] k true nT loc H (rQ Q) E:=by
 o_facts nT;simp only[B.c];refine B.told (many:=4) (O3 ha) (by decide) hk (rk h1) fun v H1 hv B1 F1=>cK ?_;refine⟨_,rfl,trivial,by exact O4 hv,by exact O5,?_⟩;refine pW (c0:=c0) (bag:=bag) (sl:=sl) (S:=fun x=>∃b,x=.bytes b/\b∈piecesN) (fun u H a Q2 B ha hQ=>?_) _ [] H1 (a+1) _ B1 ?_ (fun x hx=>nomatch hx) fun vs H2 B2 F2 hvs hl=>?_
 ·simp only[B.c];refine B.told (many:=16) ha (by decide) hk (rk h1) fun v H' hv B' F=>?_;have hv':v<piecesN.length:=by rw[wW];exact hv
  exact .sq _ _ (.bytes piecesN[v]) rfl (.pr _ rfl g301) (Ws _) (by decide) (by rw[WH,Ww,Vw hv'];rfl) (hQ _ _ B' F (i0 _ rfl (Z7 hv')))
 ·simp[bH];exact Hv ha
 ·have hl4:vs.length<=4/\0<vs.length:=by rw[hl];simp[bH];exact O6 hv
  refine eD (ER hvs) fun ps j1 j2 j3=>?_;refine qX (rZ ps j3) fun g1 g2 g3=>?_;refine⟨_,_,_,rfl,aB _ _,rfl,by show _<=4096;exact O7 hl4,j1,by show _<=4096;exact O8 hl4 j2 g1,?_⟩;have X:=a9.app H2 [AO.list vs];have F:=(F1.trans F2).trans X.of;refine Va (P:=ps.flatten) hk h1 ⟨by exact O9 hl4 j2 g1,g3 (O_ hl4 j2),g2⟩ hT (B2.ext X) (by simp[bH];exact Hv ha) (F.keep _ _ hc1 fun z=>by rw[z,B.b]at hc1;cases hc1) ?_ ?_ q
  all_goals simp [aP,l8]
def U_(hk:k<=n)(h1:100<=k)(B:ud H c0 bag sl a)(ha:a<=10)(hc1:H[c1]?=some (.cell v0))(g301:gl 301=some (piecesN.map AV.bytes))
  (q:∀H',Q (.bool true) H'):aA (Gm gl n) (fQ gl n) ct [c0,c1] k true nS loc H (rQ Q) E:=by
 o_facts nS;simp only[B.c];refine B.told (many:=6) (O' ha) (by decide) hk (rk h1) fun v H1 hv B1 F1=>cK ?_;refine⟨_,rfl,trivial,by exact Pa hv,by exact Pb,?_⟩;refine pW (c0:=c0) (bag:=bag) (sl:=sl) (S:=fun x=>∃c:UInt8,x=.int (c.toNat:Int)) (fun u H a Q2 B ha hQ=>?_) _ [] H1 (a+1) _ B1 ?_ (fun x hx=>nomatch hx) fun vs H2 B2 F2 hvs hl=>?_
 ·simp only[B.c];refine B.told (many:=6) ha (by decide) hk (rk h1) fun v H' hv B' F=>?_;refine a_ (by decide) (show v<6 from hv) ?_;refine hQ _ _ B' F ⟨(atP [97,98,40,97,41,98] v).toUInt8,?_⟩;rw[Nat.toUInt8,UInt8.toNat_ofNat'];rw[Nat.mod_eq_of_lt Ip]
 ·simp[bH];exact Pc ha
 ·have hl4:vs.length<=5:=by rw[hl];simp[bH]
  refine o1 (Bt hvs) fun T j1 j2=>?_;refine .li _ _ _ rfl (aB _ _) rfl (by show _<=4096;exact uy hl4) j1 ?_;have X:=a9.app H2 [AO.list vs];have F:=(F1.trans F2).trans X.of;refine U' (T:=T) hk h1 (Pd j2 hl4) (B2.ext X) (by simp[bH];exact Pe ha) (F.keep _ _ hc1 fun z=>by rw[z,B.b]at hc1;cases hc1) g301 ?_ q;simp[aP]
def U9{c0 c1 sa:Nat}{xs:List Int}(hk:k<=n)(h1:100<=k)(hc0:H[c0]?=some (.cell none))(hc1:H[c1]?=some (.cell none))(hne:c0≠c1)(gsa:gl sa=some (xs.map AV.int))(hx:xs.length<=63)(g301:gl 301=some (piecesN.map AV.bytes))
  (q:∀H',Q (.bool true) H'):aA (Gm gl n) (fQ gl n) ct [c0,c1] k true mS [(47,.prog sa)] H (rQ Q) E:=by
 o_facts mS;have l0:c0<H.length:=(Vn.mp hc0).1;have l1:c1<H.length:=(Vn.mp hc1).1;refine .pr 0 _ _ _ rfl rfl gsa (by rw[VI];show _<=4096;exact Pf hx) (if_pos (c:=(0:Int)<=20) (e:=none) (by decide)) ?_;have ec:cut (xs.map AV.int) (min 0 (xs.map AV.int).length) (min (20:Int).toNat (xs.map AV.int).length)=(xs.take 20).map AV.int:=by
  unfold cut;rw[VI,Nat.zero_min,List.drop_zero,Nat.sub_zero,List.map_take];have:(20:Int).toNat=20:=rfl;rw[this,List.take_eq_take_iff];simp
 rw[ec];refine⟨by decide,aQ (aB _ _),?_⟩;generalize hH:(H++[AO.dict []]++[AO.list ((xs.take 20).map AV.int)]).set H.length (AO.dict [(8,AV.ref (H++[AO.dict []]).length),(9,AV.int 0)])=HH;have get0:∀(i:Nat) (o:AO),H[i]?=some o->HH[i]?=some o:=fun i o e=>by
  rw[←hH,aV (WO (hZ e))];exact aQ (aQ e)
 have getD:HH[H.length]?=some (AO.dict [(8,AV.ref (H++[AO.dict []]).length),(9,AV.int 0)]):=by
  rw[←hH];exact dy (aQ (aB _ _))
 have getL:HH[(H++[AO.dict []]).length]?=some (AO.list ((xs.take 20).map AV.int)):=by
  rw[←hH,aV (by simp)];exact aB _ _
 refine⟨_,_,rfl,get0 _ _ hc0,?_⟩;refine U_ (v0:=none) (bag:=H.length) (sl:=(H++[AO.dict []]).length) (a:=0) hk h1 ⟨dy (get0 _ _ hc0),?_,xs.take 20,?_,by simp;omega⟩ Pg ?_ g301 q
 ·rw[aV (by exact Ph l0)];exact getD
 ·rw[aV (by simp;exact Pi l0)];exact getL
 ·rw[aV (XD hne)];exact get0 _ _ hc1
end
end Mine
end
section
namespace Mine
open PySem PySem.W PyProof.Rows PySem.Calls
open Sem (wp)
section
section
variable{α β:Type}{M:Model}{A:VN}{E:Vq->Vo->Prop}{s:Vo}{env:Env}{prog:WU}{w:XC}
def keepN(h:bg M A m Q E s):bg M A (m.keep vs) Q E s:=
 fun Γ p hΓ h1 h2=>by rw[Sem.wp_keep];exact h Γ p hΓ h1 h2
def yU{P:Heap->Prop}(hplain:(args.any (·.1)||keywords.any (·.1.isNone))=false)
  (hk:∀h,P h->∃k,(k=XW\/k=Xz\/k=W')/\Looks M h (ZG f) k)
  (h:bg M A (evalArgs f true args keywords) (fun a s₁=>P s₁.heap/\bg M A (call f (first++a.pos) a.kw) Q E s₁) E s):bg M A (Xs pos f first args keywords) Q E s:=by
 delta Xs;dsimp only;refine ag (bo (aT h (fun a s₁ h₁=>af (VY ?_)) fun _ _ x=>x));refine o1 (hk _ h₁.1) fun k hk' L=>?_;rw[hplain];refine af (L.here ?_);have tail:∀{t:Sem Vq},bg M A t Q E s₁->bg M A (t>>=fun r=>holding [r] point>>=fun _=>pure r) Q E s₁:=
  fun ht=>ag (aT ht (fun r s₂ hr=>af (V6 (wpAny_point (ai hr)))) fun _ _ x=>x)
 have marked (mk:Vq):bg M A (callMarked mk f (first++a.pos) a.kw) Q E s₁:=by unfold callMarked;exact keepN h₁.2
 have long (mk:Vq):bg M A (if args.length+2*keywords.length>30 then call f (first++a.pos) a.kw>>=fun r=>holding [r] point>>=fun _=>pure r else callMarked mk f (first++a.pos) a.kw>>=fun r=>holding [r] point>>=fun _=>pure r) Q E s₁:=
  nL (P:=fun t=>bg M A t Q E s₁) (fun _=>tail h₁.2) fun _=>tail (marked _)
 rcases hk' with rfl|rfl|rfl
 ·exact long plainCall
 ·exact tail h₁.2
 ·exact long callOfAMethodObject
def zc(hp:args.any (·.1)=false)
  (h:bg M A (Wq args) (fun vs s₁=>Q ⟨vs,[]⟩ s₁) E s):bg M A (evalArgs f true args []) Q E s:=by
 unfold evalArgs;induction args using Vr with
 |nil=>
  show bg _ A (Wq []>>=_) _ E s;refine ag (aT h (fun vs s' h'=>?_) fun _ _ x=>x);refine bo ?_;exact af (Vp (af (Vp (ai h'))))
 |cons y r=>
  obtain⟨b,x⟩:=y;induction b using Vu with
  |true=>injection hp
  |false=>
   show bg _ A (Wq ((false,x)::r)>>=_) _ E s;refine ag (aT h (fun vs s' h'=>?_) fun _ _ x=>x);refine bo ?_;exact af (Vp (af (Vp (ai h'))))
end
variable{cc:CC}{c:FC}{A:VN}{Γ ΓN:cM}{ct:CT}{k:Nat}{loc loc1:aM}{sc:VZ}{H:AH}{ad:List Addr}{hd:Hid}{s:Vo}{h h':Heap}{fr:List (Addr×Obj)}
variable{H1:AH}{ad1:List Addr}{hd1:Hid}{Q:QE}{QB:Bool->AH->Prop}{E:AH->Prop}{Qr:Vq->Vo->Prop}{QBr:Bool->Vo->Prop}{Er:d_}
variable{D D1 D2 D3:ja}{T1 T2:vW}{DL:AH->(List AV->AH->Prop)->(AH->Prop)->Prop}{DS DSa DSb:sx}
def eB{P:Heap->Prop}(hs:as.all aK=true)
  (hk:∀h,P h->∃k,(k=XW\/k=Xz\/k=W')/\Looks (Vt cc.prog cc.w) h (ZG f) k)
  (h:bg (Vt cc.prog cc.w) A (Wq (Wh pos (V1 as c.env))) (fun vs s₁=>P s₁.heap/\bg (Vt cc.prog cc.w) A (W6 f (first++vs)) Qr Er s₁) Er s):
  bg (Vt cc.prog cc.w) A (Xs pos f first (Wh pos (V1 as c.env)) []) Qr Er s:=by
 refine yU (by rw[iF hs];rfl) hk (zc (iF hs) h)
def cT(cc:CC)(c:FC)(A:VN)(loc:aM)(t:Sem Vq)(D:ja):Prop:=
 ∀(H:AH) (ad:List Addr) (hd:Hid) (s:Vo) (Q:QE) (E:AH->Prop) (Qr:Vq->Vo->Prop) (Er:d_),
  FS cc c loc H ad hd s->D H Q E->KV cc c loc H ad hd Q Qr->KE cc c loc H ad hd E Er->bg (Vt cc.prog cc.w) A t Qr Er s
def uj(cc:CC)(c:FC)(A:VN)(loc:aM)(t:Sem Bool)(D:vW):Prop:=
 ∀(H:AH) (ad:List Addr) (hd:Hid) (s:Vo) (Q:Bool->AH->Prop) (E:AH->Prop) (Qr:Bool->Vo->Prop) (Er:d_),
  FS cc c loc H ad hd s->D H Q E->KB cc c loc H ad hd Q Qr->KE cc c loc H ad hd E Er->bg (Vt cc.prog cc.w) A t Qr Er s
def bA(cc:CC)(c:FC)(A:VN)(t:Sem Flow)(D:sx):Prop:=
 ∀(loc:aM) (H:AH) (ad:List Addr) (hd:Hid) (s:Vo) (Q:QS) (E:ES) (Qr:Flow->Vo->Prop) (Er:d_),
  FS cc c loc H ad hd s->D loc H Q E->Xv (Vt cc.prog cc.w) A c.env Er->KF cc c H ad hd Q Qr->KS cc c H ad hd E Er->bg (Vt cc.prog cc.w) A t Qr Er s
def aC.n(h:aC cc c A loc t D):cT cc c A loc t D:=fun H ad hd s Q E Qr Er F d q e=>bw (h H ad hd s Q E Qr Er F d q e)
def bZ.n(h:bZ cc c A loc t T1):uj cc c A loc t T1:=fun H ad hd s Q E Qr Er F d q e=>bw (h H ad hd s Q E Qr Er F d q e)
def bc.n(h:bc cc c A t DS):bA cc c A t DS:=fun loc H ad hd s Q E Qr Er F d po q e=>bw (h loc H ad hd s Q E Qr Er F d po q e)
def Ki(h:cT cc c A loc t D)(hd:∀H Q E,D1 H Q E->D H Q E):cT cc c A loc t D1:=fun H ad hd' s Q E Qr Er F d=>h H ad hd' s Q E Qr Er F (hd _ _ _ d)
def Kh(h:bA cc c A t DS)(hd:∀loc H Q E,DS' loc H Q E->DS loc H Q E):bA cc c A t DS':=fun loc H ad hd' s Q E Qr Er F d=>h loc H ad hd' s Q E Qr Er F (hd _ _ _ _ d)
def cI(cc:CC)(k:Nat)(hn:Bool)(f:Vq)(args:List AV)(H:AH)(ad:List Addr)(hd:Hid)(Q:QE)(E:AH->Prop):Prop:=
 ∀(hd0:Option Addr) (A:VN) (fr:List (Addr×Obj)) (s:Vo) (vals:List Vq) (R:Xu->Vo->Prop),
  g_ cc k hn hd0 A fr H ad hd s->aw (VR ad) args vals->Ends cc hn fr H ad hd Q E R->
  bE (Vt cc.prog cc.w) A (.call f ⟨vals,[]⟩) R s
structure fS(cc:CC)(Γ:cM):Prop where
 fn:∀f k hn args H ad hd Q E,Γ.fn f k hn args H Q E->cI cc k hn (.ref f) args H ad hd Q E
 clos:∀d cl k hn args H ad hd Q E (i:Nat) a,H[i]?=some (.clos d cl)->ad[i]?=some a->Γ.clos d cl k hn args H Q E->cI cc k hn (.ref a) args H ad hd Q E
def uH(F:FS cc c loc H ad hd s)(ao:bx c A k)(r:aw (VR ad) vs xs)
  (d:cI cc k c.hn f vs H ad hd (fun v H1=>bB H H1->Q v H1) (fun H1=>bB H H1->E H1))(q:KV cc c loc H ad hd Q Qr)(e:KE cc c loc H ad hd E Er):
  bg (Vt cc.prog cc.w) A (W6 f xs) Qr Er s:=by
 refine eD (F.call ao) fun oL cAt back fly=>?_;refine rz (d c.hd0 A _ s xs _ cAt r ⟨fun v H' ad' hd' s' x T R o rv qv=>?_,fun H' ad' hd' s' ea T R o fl qe=>?_⟩)
 ·exact q _ _ _ _ _ _ T (back _ _ _ _ T R o) rv (qv T.H)
 ·exact e _ _ _ _ _ T (back _ _ _ _ T R o) (fly _ _ _ _ fl) (qe T.H)
def zN(O:aO cc)(V:fS cc Γ)(ao:bx c A k)(hs:as.all aK=true)(hk:Zp cc.K (.ref a)=true)
  (he:eval (.Call fe as [] pos) c.env=(do Xs pos (←eval fe c.env) [] (Wh pos (V1 as c.env)) []))
  (hf:∀{H:AH}{ad:List Addr}{hd:Hid}{s:Vo}{Qr:Vq->Vo->Prop}{Er:d_},FS cc c loc H ad hd s->Qr (.ref a) s->Vy (Vt cc.prog cc.w) A (eval fe c.env) Qr Er s)
  (h:ji cc c A loc (Wq (Wh pos (V1 as c.env))) DL):
  cT cc c A loc (eval (.Call fe as [] pos) c.env) (fun H Q E=>DL H (fun vs H1=>cF Γ k c.hn a vs H1 Q E) E):=by
 intro H ad hd s Q E Qr Er F d q e;rw[he];refine af (hf F ?_);refine eB (P:=cc.K.In) hs (keeps_K hk) (bw (h _ _ _ _ _ _ _ _ F d (fun vs H1 ad1 hd1 s1 xs T1 F1 r1 d1=>⟨F1.K O,?_⟩) e));exact uH F1 ao r1 (V.fn _ _ _ _ _ _ _ _ _ d1) (KV.tr q T1) (KE.tr e T1)
set_option tactic.hygienic true in
def w9(V:fS cc Γ)(ao:bx c A k){fe:Expr}(hs:as.all aK=true)
  (he:eval (.Call fe as [] pos) c.env=(do Xs pos (←eval fe c.env) [] (Wh pos (V1 as c.env)) []))
  (hf:aC cc c A loc (eval fe c.env) D) (h:ji cc c A loc (Wq (Wh pos (V1 as c.env))) DL)
  :cT cc c A loc (eval (.Call fe as [] pos) c.env) (fun H Q E=>D H (fun g H0=>DL H0 (fun vs H1=>jm Γ k c.hn g vs H1 Q E) E) E):=by
 intro H ad hd s Q E Qr Er F d q e;rw[he];refine af (hf _ _ _ _ _ _ _ _ F d (fun g H0 ad0 hd0 s0 gx T0 F0 r0 d0=>?_) e);refine eB (P:=fun h=>∃ga o fd,gx=.ref ga/\h.get? ga=some o/\o.data=.func fd) hs (fun h x=>?_) (bw (h _ _ _ _ _ _ _ _ F0 d0 (fun vs H1 ad1 hd1 s1 xs T1 F1 r1 d1=>?_) (KE.tr e T0)))
 ·refine Tz gx x fun ga o fd a b=>?_;exact uU rfl h (i0 o a b)
 ·obtain⟨i,cd,cl,rfl,hi1,d1⟩:=d1;refine jb gx r0 fun ga ea=>?_;have ea1:=aX T1.ad ea;refine⟨?_,uH F1 ao r1 (V.clos _ _ _ _ _ _ _ _ _ _ i ga hi1 ea1 d1) (KV.tr (KV.tr q T0) T1) (KE.tr (KE.tr e T0) T1)⟩;refine oZ fun zq=>?_;obtain⟨x,ob,e3,e4,ads,c',doc,pm,ctv,_,_,_,rfl⟩:=F1.hr.obj _ _ hi1;refine zq ?_;rw[ea1]at e3;(injection e3 with e3;subst e3);exact⟨ga,_,_,rfl,e4,rfl⟩
def Dc(X:k_ cc)(ao:bx c A k)(hl:cT cc c A loc (eval l c.env) D1)(hr:aC cc c A loc (eval r c.env) D2):
  cT cc c A loc (eval (.Compare l [nz op] [r] pos) c.env) (fun H Q E=>D1 H (fun a H1=>D2 H1 (fun b H2=>bQ op a b H2 (fun c=>Q (.bool c) H2)) E) E):=by
 intro H ad hd s Q E Qr Er F d q e;rw[eval_Compare1,Zf (kh op r)];refine ag (hl _ _ _ _ _ _ _ _ F d (fun a H1 ad1 hd1 s1 x T1 F1 r1 d1=>?_) e);refine ag (bo (bw (hr _ _ _ _ _ _ _ _ F1 d1 (fun b H2 ad2 hd2 s2 y T2 F2 r2 d2=>?_) (KE.tr e T1))));refine af (VY ?_);exact bw (wpAny_operate' (eL X ao F2 (r1.mono T2.ad) r2 d2 fun c' s' F' d'=>KV.bool q (T1.trans T2) F' d'))
def zZ(X:k_ cc)(ao:bx c A k)(hl:cT cc c A loc (eval l c.env) D1)(hr:aC cc c A loc (eval r c.env) D2):
  uj cc c A loc (VM (.Compare l [nz op] [r] pos) c.env whole) (fun H Q E=>D1 H (fun a H1=>D2 H1 (fun b H2=>bQ op a b H2 (fun c=>Q c H2)) E) E):=by
 intro H ad hd s Q E Qr Er F d q e;rw[isTrue_Compare1,Zf (kh op r)];refine ag (hl _ _ _ _ _ _ _ _ F d (fun a H1 ad1 hd1 s1 x T1 F1 r1 d1=>?_) e);refine ag (bo (bw (hr _ _ _ _ _ _ _ _ F1 d1 (fun b H2 ad2 hd2 s2 y T2 F2 r2 d2=>?_) (KE.tr e T1))));refine af (VY ?_);refine af (wpAny_operate' (eL X ao F2 (r1.mono T2.ad) r2 d2 fun c' s' F' d'=>?_));exact bw (V6 (XH (q _ _ _ _ _ (T1.trans T2) F' d')))
def vE(hn:eC r=true)(hl:cT cc c A loc (eval l c.env) D1):
  cT cc c A loc (eval (.Compare l [.Is] [r] pos) c.env) (fun H Q E=>D1 H (fun v H1=>Q (.bool (match v with|.none=>true|_=>false)) H1) E):=by
 intro H ad hd s Q E Qr Er F d q e;refine uf r (gQ hn) fun n p=>?_;rw[eval_Compare1,Zf rfl];refine ag (hl _ _ _ _ _ _ _ _ F d (fun a H1 ad1 hd1 s1 x T1 F1 r1 d1=>?_) e);refine ag (bo (bw (V' ?_)));refine af (VY ?_);refine bw (wpAny_operate' ?_);induction a using AV.casesOn with
 |none=>subst r1;exact YA (KV.bool q T1 F1 d1)
 |bool=>subst r1;exact YA (KV.bool q T1 F1 d1)
 |int=>refine cX x r1 fun _=>?_;exact YA (KV.bool q T1 F1 d1)
 |bytes=>refine cX x r1 fun _=>?_;exact YA (KV.bool q T1 F1 d1)
 |ref=>refine jb x r1 fun _ _=>?_;exact YA (KV.bool q T1 F1 d1)
 |prog=>subst r1;exact YA (KV.bool q T1 F1 d1)
set_option tactic.hygienic true in
def zm(F:FS cc c loc H ad hd s)(r:VR ad v x)(h:lI v H):∃a b,x=.ref a/\s.heap.get? a=some (dW b):=by
 obtain⟨j,b,rfl,hj⟩:=h;refine jb x r fun a ea=>?_;refine o6 (F.hr.obj _ _ hj) fun a' o a1 a2 a3=>?_;rw[ea]at a1;(injection a1 with a1;subst a1);have a3:o={cls:=.type "bytearray",data:=.bytearray b.toArray 0}:=a3;subst a3;exact i2 a _ rfl a2
def q6:PlainAttrs "bytearray":=
 ⟨(i0 ("bytearray.__getattribute__") (by rw[V7,VO];kernel_rfl) (by decide+kernel)),by rw[V7,VO];kernel_rfl⟩
def oO{o a:Expr}{x:Str}{id:String}{ap pos:Pos}(slot:Slot "bytearray" x id)(hty:typeOf (.builtin id)=pure (.type "method_descriptor"))
  (hc:bU o=false)(hl:(ap.endLine==pos.line)=true)(ha:aK a=true)
  (ho:aC cc c A loc (eval o c.env) D)(hA:cT cc c A loc (eval a c.env) D1){L:AV->AV->AH->QE->Prop}
  (leaf:∀u ux v x H ad hd s (Q:QE)(E:AH->Prop)(Qr:Vq->Vo->Prop)(Er:d_),FS cc c loc H ad hd s->VR ad u ux->VR ad v x->L u v H Q->KV cc c loc H ad hd Q Qr->bg (Vt cc.prog cc.w) A (call (.builtin id) [ux,x]) Qr Er s):
  cT cc c A loc (eval (.Call (.Attribute o x ap) [a] [] pos) c.env) (fun H Q E=>D H (fun u H1=>lI u H1/\D1 H1 (fun v H2=>L u v H2 Q) E) E):=by
 intro H ad hd s Q E Qr Er F d q e;rw[eN hc hl (by show 1<29;decide) (by rw[XO,ha];rfl)];refine af (ho _ _ _ _ _ _ _ _ F d (fun u H0 ad0 hd0 s0 ux T0 F0 r0 d0=>af (VY (af (V6 ?_)))) e);refine oZ fun zq=>?_;refine kY d0 fun db d0=>?_;obtain⟨l,b,rfl,hl⟩:=zm F0 r0 db;refine zq ?_;refine getMethod_builtin (T:="bytearray") (i0 _ hl rfl) q6 slot hty (fun a e=>by(injection e with e;subst e);exact i0 _ hl rfl) ?_;refine eB (P:=fun _=>True) (by rw[XO,ha];rfl) mM ?_;rw[cW ha];show bg _ _ (do
  let v←eval a c.env
  let here←if false=true then do
    if←Yu v then
     rule "star.not-iterable";raiseError"TypeError" s!"Value after * must be an iterable, not {← typeNameOf v}"
    collect v
   else pure [v]
  return here++(←holding here (Wq (Wh pos (V1 [] c.env))))) _ _ _
 refine ag (hA _ _ _ _ _ _ _ _ F0 d0 (fun v H1 ad1 hd1 s1 xv T1 F1 r1 d1=>?_) (KE.tr e T0));simp only[V0,if_false];refine af (Vp (af (V6 (pj (ai ⟨trivial,?_⟩)))));exact leaf u _ v xv _ _ _ _ _ E _ _ F1 (r0.mono T1.ad) r1 d1 (KV.tr (KV.tr q T0) T1)
set_option tactic.hygienic true in
def yP:∀u ux v x H ad hd s (Q:QE) (E:AH->Prop) (Qr:Vq->Vo->Prop) (Er:d_),FS cc c loc H ad hd s->VR ad u ux->VR ad v x->rt u v H Q->KV cc c loc H ad hd Q Qr->
  bg (Vt cc.prog cc.w) A (call (.builtin "bytearray.append") [ux,x]) Qr Er s:=by
 intro u ux v x H ad hd s Q E Qr Er F ru rv d q;obtain⟨j,b,rfl,hj,kk,rfl,d0,d1,d2,d3⟩:=d;refine jb ux ru fun a ea=>?_;refine cX x rv fun t=>?_;refine o6 (F.hr.obj _ _ hj) fun a' o a1 a2 a3=>?_;rw[ea]at a1;(injection a1 with a1;subst a1);have a3:o={cls:=.type "bytearray",data:=.bytearray b.toArray 0}:=a3;subst a3;refine DU a2 d0 d1 (by have:=f_ d2;simpa using this) fun h' xb e=>?_;exact q .none _ _ _ _ _ (Tr.set hj (fun z=>z)) (F.upd (ao:=.barr (b++[kk.toNat.toUInt8])) (k:=s.toks) ea hj (fun z=>z) xb e (by show _=_;simp)) rfl d3
set_option tactic.hygienic true in
def yQ:∀u ux v x H ad hd s (Q:QE) (E:AH->Prop) (Qr:Vq->Vo->Prop) (Er:d_),FS cc c loc H ad hd s->VR ad u ux->VR ad v x->rx u v H Q->KV cc c loc H ad hd Q Qr->
  bg (Vt cc.prog cc.w) A (call (.builtin "bytearray.extend") [ux,x]) Qr Er s:=by
 intro u ux v x H ad hd s Q E Qr Er F ru rv d q;obtain⟨j,b,rfl,hj,m,rfl,d2,d3⟩:=d;refine jb ux ru fun a ea=>?_;refine cX x rv fun t=>?_;refine o6 (F.hr.obj _ _ hj) fun a' o a1 a2 a3=>?_;rw[ea]at a1;(injection a1 with a1;subst a1);have a3:o={cls:=.type "bytearray",data:=.bytearray b.toArray 0}:=a3;subst a3;refine EG a2 (by have:=f_ d2;simpa using this) fun h' xb e=>?_;exact q .none _ _ _ _ _ (Tr.set hj (fun z=>z)) (F.upd (ao:=.barr (b++m)) (k:=s.toks) ea hj (fun z=>z) xb e (by show _=_;simp)) rfl d3
end
section
section
variable{M:Model}{A:VN}{E:Vq->Vo->Prop}{s:Vo}{env:Env}
def vX{elts:List Expr}{k:Nat}{tpos pos:Pos}{value:Expr}{Q:Flow->Vo->Prop}
  (h:bg M A (eval value env) (fun v s₁=>Vy M A (assign (.Tuple elts k tpos) env v) (fun _=>Q .next) E s₁) E s)
  (hs:Z1 [.Tuple elts k tpos] value pos.line env=pure false)(hw:Y' [.Tuple elts k tpos] value env=pure none):
  bg M A (exec (.Assign [.Tuple elts k tpos] value pos) env) Q E s:=by
 rw[exec_Assign];refine af (VY ?_);rw[hs];refine af (Vp ?_);rw[if_neg (by decide)];refine ag (aT h (fun v s₁ h₁=>?_) fun _ _ x=>x);rw[hw];refine af (Vp ?_);show bg M A (do assignAll v [assign (.Tuple elts k tpos) env];pure .next) Q E s₁;exact af (W3 h₁ (fun _ _ x=>ai x) fun _ _ x=>x)
def su{elts:List Expr}{k:Nat}{tpos pos:Pos}{value:Expr}{names:List Str}{Q:Flow->Vo->Prop}
  (h:bg M A (eval value env) (fun v s₁=>Vy M A (unpackItems v names.length none) (fun items s₂=>
   Vy M A (WT (names.reverse.map fun n=>bindName env n) items.reverse) (fun _=>Q .next) E s₂) E s₁) E s)
  (hs:Z1 [.Tuple elts k tpos] value pos.line env=pure false)(hw:Y' [.Tuple elts k tpos] value env=pure (some names)):
  bg M A (exec (.Assign [.Tuple elts k tpos] value pos) env) Q E s:=by
 rw[exec_Assign];refine af (VY ?_);rw[hs];refine af (Vp ?_);rw[if_neg (by decide)];refine ag (aT h (fun v s₁ h₁=>?_) fun _ _ x=>x);rw[hw];refine af (Vp ?_);show bg M A (do rule "assign.swapped-stores";let items←unpackItems v names.length none;WT (names.reverse.map fun n=>bindName env n) items.reverse;pure .next) Q E s₁;exact af (Yt (af (W3 h₁ (fun items s₂ h₂=>af (W3 h₂ (fun _ _ x=>ai x) fun _ _ x=>x)) fun _ _ x=>x)))
def Kl(h:bg (Vt prog w) A (eval e env) (fun _ s'=>Q .next s') E s)
  (hi:interactive env=false)(hs:swapsWith e none pos.line env=pure false):bg (Vt prog w) A (exec (.Expr e pos) env) Q E s:=by
 rw[exec_Expr env e pos hi hs];exact af (VY (ag (aT h (fun v s' h'=>bw (wpAny_dropValue h')) fun _ _ x=>x)))
end
variable{cc:CC}{c:FC}{A:VN}{Γ ΓN:cM}{ct:CT}{k:Nat}{loc loc1:aM}{sc:VZ}{H:AH}{ad:List Addr}{hd:Hid}{s:Vo}{h h':Heap}{fr:List (Addr×Obj)}
variable{H1:AH}{ad1:List Addr}{hd1:Hid}{Q:QE}{QB:Bool->AH->Prop}{E:AH->Prop}{Qr:Vq->Vo->Prop}{QBr:Bool->Vo->Prop}{Er:d_}
variable{D D1 D2 D3:ja}{T1 T2:vW}{DL:AH->(List AV->AH->Prop)->(AH->Prop)->Prop}{DS DSa DSb:sx}{DV:aM->ja}
def w3{st:Stmt}(h1:bA cc c A (exec st c.env) DSa)(h2:bA cc c A (Wt rest c.env) DSb):
  bA cc c A (Wt (st::rest) c.env) (fun loc H Q E=>DSa loc H (fun fl loc1 H1=>match fl with
   |.next=>DSb loc1 H1 Q E
   |fl=>Q fl loc1 H1) E):=by
 intro loc H ad hd s Q E Qr Er F d po q e;refine jt (h1 _ _ _ _ _ _ _ _ _ F d po (fun fl loc1 H1 ad1 hd1 s1 f T1 F1 r1 d1=>?_) e);induction fl using yK.casesOn with
 |next=>subst r1;exact h2 _ _ _ _ _ _ _ _ _ F1 d1 po (KF.tr q T1) (KS.tr e T1)
 |brk=>subst r1;exact KF.brk q T1 F1 d1
 |cont=>subst r1;exact KF.cont q T1 F1 d1
 |ret v=>refine wV f r1 fun x r=>?_;exact KF.ret q T1 F1 r d1
def C6{DT:aM->vW}(ht:∀loc,uj cc c A loc (VM t c.env (eval t c.env)) (DT loc))(ha:bA cc c A (Wt a c.env) DSa)(hb:bA cc c A (Wt b c.env) DSb):
  bA cc c A (exec (.If t a b pos) c.env) (fun loc H Q E=>DT loc H (fun t H1=>if t then DSa loc H1 Q E else DSb loc H1 Q E) (E loc)):=by
 intro loc H ad hd s Q E Qr Er F d po q e;refine Uz (ht loc _ _ _ _ _ _ _ _ F d (fun v H1 ad1 hd1 s1 T1 F1 d1=>?_) (KS.ke e loc));induction v using Vu with
 |true=>exact ha _ _ _ _ _ _ _ _ _ F1 d1 po (KF.tr q T1) (KS.tr e T1)
 |false=>exact hb _ _ _ _ _ _ _ _ _ F1 d1 po (KF.tr q T1) (KS.tr e T1)
def zD(hx:∀loc,cT cc c A loc (eval x c.env) (DV loc)):
  bA cc c A (exec (.Return (some x) pos) c.env) (fun loc H Q E=>DV loc H (fun v H1=>Q (.ret v) loc H1) (E loc)):=by
 intro loc H ad hd s Q E Qr Er F d po q e;show bg _ A (do Yh pos;return .ret (←eval x c.env)) Qr Er s;refine af (VY (ag (hx loc _ _ _ _ _ _ _ _ F d (fun v H1 ad1 hd1 s1 y T1 F1 r1 d1=>ai ?_) (KS.ke e loc))));exact KF.ret q T1 F1 r1 d1
def w4(eo:ay c)(hcomp:bL value=false)(hval:∀loc,cT cc c A loc (eval value c.env) (DV loc)):
  bA cc c A (exec (.Expr value pos) c.env) (fun loc H Q E=>DV loc H (fun _ H1=>Q .next loc H1) (E loc)):=by
 intro loc H ad hd s Q E Qr Er F d po q e;refine Kl (hval loc _ _ _ _ _ _ _ _ F d (fun v H1 ad1 hd1 s1 y T1 F1 r1 d1=>?_) (KS.ke e loc)) (by unfold interactive;rw[eo.kind];rfl) (cj hcomp _ _ _);exact KF.next q T1 F1 d1
def vA{DT:aM->vW}(ht:∀loc,uj cc c A loc (VM t c.env (eval t c.env)) (DT loc))(hb:bA cc c A (Wt b c.env) DSb):
  bA cc c A (exec (.While t b [] pos) c.env) (fun loc H Q E=>∃(I:Nat->aM->AH->Prop)(n:Nat),I n loc H/\∀(n:Nat)(loc1:aM)(H1:AH),bB H H1->I n loc1 H1->
   DT loc1 H1 (fun t H2=>if t then DSb loc1 H2 (fun fl loc2 H3=>match fl with
     |.next=>∃m,m<n/\I m loc2 H3
     |.cont=>∃m,m<n/\I m loc2 H3
     |.brk=>Q .next loc2 H3
     |.ret v=>Q (.ret v) loc2 H3) E else Q .next loc1 H2) (E loc1)):=by
 intro loc H ad hd s Q E Qr Er F d po q e;refine o2 d fun I n i0 step=>?_;refine H_ (xm (fun n s'=>∃loc1 H1 ad1 hd1,Tr ad H hd ad1 H1 hd1/\FS cc c loc1 H1 ad1 hd1 s'/\I n loc1 H1) (fun n s' hI=>?_) n ⟨loc,H,ad,hd,.refl _ _ _,F,i0⟩);refine Us hI fun loc1 H1 ad1 hd1 T1 F1 i1=>?_;refine yl po (ht loc1 _ _ _ _ _ _ _ Er F1 (step n loc1 H1 T1.H i1) (fun v H2 ad2 hd2 s2 T2 F2 d2=>?_) (KS.ke (KS.tr e T1) loc1));induction v using Vu with
 |true=>
  simp only[if_true]at d2⊢;refine yl po (hb _ _ _ _ _ _ _ _ _ F2 d2 po (fun fl loc3 H3 ad3 hd3 s3 f T3 F3 r3 d3=>?_) (KS.tr (KS.tr e T1) T2));have T13:=(T1.trans T2).trans T3;induction fl using yK.casesOn with
  |next=>subst r3;refine o1 d3 fun m hm i3=>?_;exact⟨m,hm,loc3,H3,ad3,hd3,T13,F3,i3⟩
  |cont=>subst r3;refine o1 d3 fun m hm i3=>?_;exact⟨m,hm,loc3,H3,ad3,hd3,T13,F3,i3⟩
  |brk=>subst r3;exact KF.next q T13 F3 d3
  |ret v=>refine wV f r3 fun x r=>?_;exact KF.ret q T13 F3 r d3
 |false=>
  simp only[V0,if_false]at d2⊢;exact bw (Xe (KF.next q (T1.trans T2) F2 d2))
def zE(O:aO cc)(LO:kD cc)(eo:ay c)(ao:bx c A k)(tp:aR c A)(hl:c.env.scope.names.lookup (Vg "LuaError")=some .globalImplicit)
  (h1:bA cc c A (Wt b c.env) DSa) (h2:∀ea,bA cc {c with hn:=false,hd0:=some ea} (A.mark (some (.ref ea))) (Wt (h0::hb) c.env) DSb):
  bA cc c A (exec (.Try b [.ExceptHandler (some (.Name (Vg "LuaError") np)) none (h0::hb) hp] [] [] pos) c.env)
   (fun loc H Q E=>c.hn=true/\DSa loc H Q (fun loc1 H1=>DSb loc1 (H1++[.exc]) Q (fun _ _=>False))):=by
 intro loc H ad hd s Q E Qr Er F d po q e;refine kY d fun hn d=>?_;obtain⟨fI,⟨N,mN,nm,qn,bs,sn,sub,ab,col,dd,k0,k1,k2,k3,k5,hC,hN⟩⟩:=LO.cls;refine Kr (h1 _ _ _ _ _ _ _ _ (fun e s₁=>Vy (Vt cc.prog cc.w) A (Xr e c.env) (fun _ s₂=>Vy (Vt cc.prog cc.w) A (XR e none)
   (fun _ s₃=>bg (Vt cc.prog cc.w) A (ZH e c.env [.ExceptHandler (some (.Name (Vg "LuaError") np)) none (h0::hb) hp]) Qr Er s₃) Er s₂) Er s₁) F d Zs (fun fl loc' H' ad' hd' s' f T' F' r' d'=>?_) (fun loc' H' ad' hd' s' ea T' F' fl d'=>?_))
 ·induction fl using yK.casesOn with
  |next=>subst r';exact bw (Xe (KF.next q T' F' d'))
  |brk=>subst r';exact KF.brk q T' F' d'
  |cont=>subst r';exact KF.cont q T' F' d'
  |ret v=>refine wV f r' fun x r=>?_;exact KF.ret q T' F' r d'
 ·refine kg F' ao tp fl fun h2' F2 fl2=>?_;refine Ke fl2 fun oe vs he hc hdat hz hctx fe T oT ts t1 t2 t3 t4 t5 fT=>?_;have F3:FS cc c loc' (H'++[.exc]) (ad'++[ea]) hd' {s' with heap:=h2'}:=by
   refine o1 F2.fr fun m hF L=>?_;exact F2.allocN (tk:=s'.toks) hF L (fun _ _ _ z=>z) fe.t fe.g (fun z=>fe.o (by rw[z])) he (Ql vs hc hdat hz (hctx hn))
  have T3:Tr ad H hd (ad'++[ea]) (H'++[.exc]) hd':=T'.trans (Tr.snoc ad' H' hd' ea .exc);have hlen:ad'.length=H'.length:=F2.hr.len;have hx:jg (some ea) (ad'++[ea]) (H'++[.exc]):=fun a0 z=>by
   (injection z with z;subst z);exact i0 ad'.length (W1 ..) (by rw[hlen];exact W1 ..)
  have F4:=F3.rehd (hn:=false) (hd0:=some ea) hx;refine xT ?_ (by intro z;injection z);refine uM (ZA ?_);refine WX eo.kind hl (XI (F3.glob O eo).1 LO.glob ?_) (by decide);refine Y4 (F3.hr.keep _ _ hC) he hc (by decide+kernel) ?_;show bE _ _ _ _ _;refine Dh ?_;refine bw ?_;unfold XR;refine Vi (WA he hdat t1 ?_);rw[if_pos (show(Wo T !=We)=true from by simp)];refine Xq t3 t4 t5 ?_;have fT':cD cc c.fr (some c.env.locals) hd' (ad'++[ea]) T:=⟨fT.g,fun z=>by
   rcases mem_snoc z with z|z
   ·exact t2 z
   ·exact fT.t z,fT.o⟩
  have other:∀b,b≠T->(h2'.update T (Wc (·.setIfInBounds 3 We))).get? b=h2'.get? b:=fun b hb=>WG _ _ (XD hb);have F5:=F4.marked (h':=h2'.update T (Wc (·.setIfInBounds 3 We))) (S:=[]) (x:=T) (y:=T) (tk:=s'.toks) (fun _ z=>nomatch z) fT' fT' (fun b o _ hb _ eb=>(other b hb).trans eb) (fun b o hb _ eb=>(i4 o.slots ((other b hb).trans eb)));refine aT (h2 ea _ _ _ _ _ _ _ (fun f s₂=>Qr f s₂) (fun _ _=>False) F5 d' ZK (fun fl loc6 H6 ad6 hd6 s6 f T6 F6 r6 d6=>?_) (fun _ _ _ _ _ _ _ _ _ z=>z.elim)) (fun _ _ z=>z) (fun _ _ z=>z.elim);have F7:FS cc c loc6 H6 ad6 hd6 s6:=⟨F6.ns,F6.hr,F6.own,F6.above,F6.cells,fun a0 z=>(by rw[ao.hn hn]at z;injection z),F6.oth⟩
  exact q _ _ _ _ _ _ _ (T3.trans T6) F7 r6 d6
def w5(O:aO cc)(LO:kD cc)(eo:ay c)(ao:bx c A k)(tp:aR c A)(hl:c.env.scope.names.lookup (Vg "LuaError")=some .globalImplicit)
  (h1:bA cc c A (Wt b c.env) DSa):
  bA cc c A (exec (.Try b [.ExceptHandler (some (.Name (Vg "LuaError") np)) none [.Return (some (.Constant .none kk kp)) rp] hp] [] [] pos) c.env)
   (fun loc H Q E=>DSa loc H Q (fun loc1 H1=>Q (.ret .none) loc1 H1)):=by
 intro loc H ad hd s Q E Qr Er F d po q e;obtain⟨fI,⟨N,mN,nm,qn,bs,sn,sub,ab,col,dd,k0,k1,k2,k3,k5,hC,hN⟩⟩:=LO.cls;refine Kr (h1 _ _ _ _ _ _ _ _ (fun e s₁=>Vy (Vt cc.prog cc.w) A (Xr e c.env) (fun _ s₂=>Vy (Vt cc.prog cc.w) A (XR e none)
   (fun _ s₃=>bg (Vt cc.prog cc.w) A (ZH e c.env [.ExceptHandler (some (.Name (Vg "LuaError") np)) none [.Return (some (.Constant .none kk kp)) rp] hp]) Qr Er s₃) Er s₂) Er s₁) F d Zs (fun fl loc' H' ad' hd' s' f T' F' r' d'=>?_) (fun loc' H' ad' hd' s' ea T' F' fl d'=>?_))
 ·induction fl using yK.casesOn with
  |next=>subst r';exact bw (Xe (KF.next q T' F' d'))
  |brk=>subst r';exact KF.brk q T' F' d'
  |cont=>subst r';exact KF.cont q T' F' d'
  |ret v=>refine wV f r' fun x r=>?_;exact KF.ret q T' F' r d'
 ·refine kg F' ao tp fl fun h2' F2 fl2=>?_;refine Ke fl2 fun oe vs he hc hdat hz hctx fe T oT ts t1 t2 t3 t4 t5 fT=>?_;refine xT ?_ (by intro z;injection z);refine uM (ZA ?_);refine WX eo.kind hl (XI (F2.glob O eo).1 LO.glob ?_) (by decide);refine Y4 (F2.hr.keep _ _ hC) he hc (by decide+kernel) ?_;show bE _ _ _ _ _;refine Dh ?_;refine bw ?_;unfold XR;refine Vi (WA he hdat t1 ?_);rw[if_pos (show(Wo T !=We)=true from by simp)];refine Xq t3 t4 t5 ?_;have other:∀b,b≠T->(h2'.update T (Wc (·.setIfInBounds 3 We))).get? b=h2'.get? b:=fun b hb=>WG _ _ (XD hb);have F5:=F2.marked (h':=h2'.update T (Wc (·.setIfInBounds 3 We))) (S:=[]) (x:=T) (y:=T) (tk:=s'.toks) (fun _ z=>nomatch z) fT fT (fun b o _ hb _ eb=>(other b hb).trans eb) (fun b o hb _ eb=>⟨o.slots,(other b hb).trans eb⟩);refine jt ?_;show bg _ _ (do Yh rp;return Flow.ret (←eval (.Constant .none kk kp) c.env)) _ _ _;refine af (VY (af (V' (ai ?_))));exact KF.ret (v:=AV.none) q T' F5 rfl d'
end
section
variable{cc:CC}{c:FC}{A:VN}{Γ ΓN:cM}{ct:CT}{k:Nat}{loc loc1:aM}{sc:VZ}{H:AH}{ad:List Addr}{hd:Hid}{s:Vo}{h h':Heap}{fr:List (Addr×Obj)}{hn:Bool}{hd0:Option Addr}
variable{H1:AH}{ad1:List Addr}{hd1:Hid}{Q:QE}{QB:Bool->AH->Prop}{E:AH->Prop}{Qr:Vq->Vo->Prop}{QBr:Bool->Vo->Prop}{Er:d_}{R:Xu->Vo->Prop}
variable{D D1 D2 D3:ja}{T1 T2:vW}{DL:AH->(List AV->AH->Prop)->(AH->Prop)->Prop}{DS DSa DSb:sx}{DV:aM->ja}
set_option backward.match.sparseCases true
def zM(O:aO cc)(eo:ay c)(hf:c.env.scope.names.lookup ("bytearray":Str)=some .globalImplicit):
  cT cc c A loc (eval (.Call (.Name ("bytearray":Str) fp) [] [] pos) c.env) (fun H Q _=>Q (.ref H.length) (H++[.barr []])):=by
 intro H ad hd s Q E Qr Er F d q e;show bg _ A (do Xs pos (←eval (.Name _ fp) c.env) [] (Wh pos (V1 [] c.env)) []) _ Er s;refine kY (O.bi ("bytearray",.type "bytearray") (by simp)) fun b1 b2=>?_;refine af (mi O eo hf b1 b2 (by decide) F ?_);refine eB (P:=fun _=>True) rfl lJ (bw (pj ⟨trivial,?_⟩));refine PT fun h' hk hg=>?_;have ha:s.heap.get? s.heap.objs.size=none:=by
  induction z:s.heap.get? s.heap.objs.size using Option.casesOn with
  |none=>rfl
  |some o=>exact absurd (Wb z) (WQ _)
 exact KV.new q (F.alloc (ao:=.barr []) (k:=s.toks) hk ha hg rfl) d
def zS(hs:aK e=true)(he:cT cc c A loc (eval e c.env) D1)(h:ji cc c A loc (Wq (Wh pos (V1 es c.env))) DL):
  cT cc c A loc (eval (.Tuple (e::es) n pos) c.env) (fun H Q E=>D1 H (fun v H0=>DL H0 (fun vs H1=>vs.length+1<=fO/\Q (.ref H1.length) (H1++[.tup (v::vs)])) E) E):=by
 intro H ad hd s Q E Qr Er F d q e';show bg _ A (do Yh pos;newTuple (←Wq (Wh pos (V1 (e::es) c.env)))) _ _ _;refine af (VY ?_);rw[cW hs];refine ag ?_;show bg _ _ (do
  let v←eval e c.env
  let here←if false=true then do
    if←Yu v then
     rule "star.not-iterable";raiseError"TypeError" s!"Value after * must be an iterable, not {← typeNameOf v}"
    collect v
   else pure [v]
  return here++(←holding here (Wq (Wh pos (V1 es c.env))))) _ _ _
 refine ag (he _ _ _ _ _ _ _ _ F d (fun a H1 ad1 hd1 s1 x T1 F1 r1 d1=>?_) e');simp only[V0,if_false];refine af (Vp (af (V6 (h _ _ _ _ _ _ _ _ F1 d1 (fun vs H2 ad2 hd2 s2 ys T2 F2 r2 d2=>ai ?_) (KE.tr e' T1)))));refine bw (oJ F2 (.cons (r1.mono T2.ad) r2) d2.1 d2.2 (KV.tr q (T1.trans T2)))
set_option tactic.hygienic true in
def oV(O:aO cc)(eo:ay c)(ao:bx c A k)(hsc:aN sc c.env.scope){es:List Expr}{kk:Nat}{tp pos:Pos}{value:Expr}{is:List Nat}(hes:dg cc.T sc es=some is)(hcomp:bL value=false)(hv:cf value=true)
  (hval:∀loc,cT cc c A loc (eval value c.env) (DV loc)):
  bA cc c A (exec (.Assign [.Tuple es kk tp] value pos) c.env) (fun loc H Q E=>DV loc H (fun v H1=>j5 Γ c.cl k c.hn (.tup is) v loc H1 (fun loc1 H2=>Q .next loc1 H2) (E loc)) (E loc)):=by
 intro loc H ad hd s Q E Qr Er F d po q e;refine wV es (fH hsc hes) fun xs nm=>?_;have hs:Z1 [.Tuple (xs.map fun p=>WV p.1 p.2) kk tp] value pos.line c.env=pure false:=by
  induction value using Expr.casesOn<;>first|rfl|(cases hcomp;done)
 have zipFst:∀{vs:List AV},vs.length=is.length->(is.zip vs).map (·.1)=is:=fun hl=>List.map_fst_zip (Ig hl);rcases swapped_cases (env:=c.env) (k:=kk) (tp:=tp) (xs:=xs) hv with hw|hw
 ·refine vX (hval loc _ _ _ _ _ _ _ _ F d (fun v H1 ad1 hd1 s1 x T1 F1 r1 d1=>?_) (KS.ke e loc)) hs hw;refine RC x (m_ F1 r1 d1) fun t items vs it r hl hnd d2=>?_;exact kL O eo ao F1 nm it r hl fun s' F'=>KF.next q T1 F' d2
 ·refine su (hval loc _ _ _ _ _ _ _ _ F d (fun v H1 ad1 hd1 s1 x T1 F1 r1 d1=>?_) (KS.ke e loc)) hs hw;refine RC x (m_ F1 r1 d1) fun t items vs it r hl hnd d2=>?_;have hsz:(xs.map (·.1)).length=items.size:=by
   rw[←Wu,←r.length,hl,nm.length]
  rw[hsz];refine kA (F1.chain ao) it fun h' hk=>?_;have F2:=F1.grow (k:=s1.toks) hk;have rev:∀{α β:Type} {R:α->β->Prop} {l:List α} {m:List β},aw R l m->aw R l.reverse m.reverse:=by
   intro α β R l m h;induction h with
   |nil=>exact .nil
   |cons x t ih=>rw[Wv,Wv];exact ih.append (.cons x .nil)
  refine sr O eo (stor:=fun n=>bindName c.env n) (fun x u s' QU' h=>bindName_ h) (rev nm) vs.reverse _ loc _ F2 (rev r) (by rw[Xf,Xf,hl]) fun s' F'=>?_;refine KF.next q T1 (F'.relk fun j=>?_) d2
  have hz:is.reverse.zip vs.reverse=(is.zip vs).reverse:=pA (Mn hl);rw[hz];exact kZ loc (by rw[zipFst hl];exact hnd) j
def uC(F:FS cc c loc H ad hd s)(ao:bx c A k)(tp:aR c A)(hs:bA cc c A (Wt body c.env) DS)(d:DS loc H (lR Q) (fun _=>E))(en:Ends cc c.hn c.fr H ad hd Q E R):
  bg (Vt cc.prog cc.w) A (Wt body c.env) (fun f s'=>R (.ok (.ret (match f with|.ret v=>v|_=>.none))) s')
   (fun e s'=>Vy (Vt cc.prog cc.w) A (Yz c.env e) (fun _ s''=>R (.error e) s'') (fun e' s''=>R (.error e') s'') s') s:=by
 refine hs _ _ _ _ _ _ _ _ (fun e s'=>Vy (Vt cc.prog cc.w) A (Yz c.env e) (fun _ s''=>R (.error e) s'') (fun e' s''=>R (.error e') s'') s') F d Zt (fun fl loc' H' ad' hd' s' f T' F' r' d'=>?_) (fun loc' H' ad' hd' s' ea T' F' fl d'=>?_)
 ·induction fl using yK.casesOn with
  |next=>subst r';exact en.ret .none _ _ _ _ _ T' F'.hr F'.oth rfl d'
  |ret v=>refine wV f r' fun x r=>?_;exact en.ret _ _ _ _ _ _ T' F'.hr F'.oth r d'
  |brk=>exact d'.elim
  |cont=>exact d'.elim
 ·unfold Yz;exact Vi (kg F' ao tp fl fun h' F2 fl2=>en.err _ _ _ _ _ T' F2.hr F2.oth fl2.out d')
def sR(O:aO cc){D:Nat->sx}
  (C:g_ cc k hn hd0 A fr H ad hd s)(hk:1<=k)(ho:s.heap.get? a=some o)(hdat:o.data=.func fd)(hcode:s.heap.CodeRec fd.code fd.qualname)(hbody:fd.body=.stmts body)
  (hg:fd.globals=mainGlobals)(hb:fd.builtins=W4)(hbind:Xp s fd ⟨vals,[]⟩ binds) (hcell:∀x∈fd.scope.names,x.2≠.cell) (hloc:∀x∈binds,fd.scope.names.lookup x.1=some .local)
  (hL:dk cc.T.nm ad loc0 (fun x=>binds.reverse.lookup x))
  (hcl:∀(j:Nat)(x:Str),cn[j]?=some x->fd.scope.names.lookup x=some .free->∃a i,fd.closure.lookup x=some a/\cl[j]?=some i/\ad[i]?=some a)
  (hcells:∀x,fd.scope.names.lookup x≠some .cell)
  (hs:∀L,bx ⟨Wi fd L a,cn,cl,fr,hn,hd0⟩ (A.deeper (Wi fd L a)) (k-1)->aR ⟨Wi fd L a,cn,cl,fr,hn,hd0⟩ (A.deeper (Wi fd L a))->bA cc ⟨Wi fd L a,cn,cl,fr,hn,hd0⟩ (A.deeper (Wi fd L a)) (Wt body (Wi fd L a)) (D (k-1)))
  (d:D (k-1) loc0 H (lR Q) (fun _=>E))(en:Ends cc hn fr H ad hd Q E R)
  (hco:fd.scope.isCoroutine=false:=by rfl) (hgen:fd.scope.isGenerator=false:=by rfl) (hkind:fd.scope.kind=.function:=by rfl):
  bE (Vt cc.prog cc.w) A (.call (.ref a) ⟨vals,[]⟩) R s:=by
 refine yV (fd:=fd) (body:=body) (binds:=binds) (Xw (Xl _ _) C.room) ho hdat (O.rd.nolimit.keeps C.hr.keep) hcode hbody hbind hcell hloc (fun h₁ hns hk₁=>?_) hco hgen hkind;have hfresh:∀b ob,s.heap.get? b=some ob->b≠s.heap.objs.size:=fun b ob e=>WO (Wb e);have R1:=C.hr.grow hk₁;have hown:s.heap.objs.size∉tot cc fr hd ad:=fun m=>by
  refine o8 (C.hr.live m) fun ob e=>?_;exact hfresh _ _ e rfl
 have F:FS cc ⟨Wi fd s.heap.objs.size a,cn,cl,fr,hn,hd0⟩ loc0 H ad hd {s with heap:=h₁,toks:=s.toks+binds.length}:=
  ⟨(i0 _ hns hL),R1,hown,C.sz,fun j x hj hx=>by
   rcases hx with hx|hx
   ·exact absurd hx (hcells x)
   ·exact hcl j x hj hx,C.hdl,⟨C.oth.gens,C.oth.drawn,C.oth.os⟩⟩
 refine o1 C.frames fun envs e1 e2=>?_;have ao:bx ⟨Wi fd s.heap.objs.size a,cn,cl,fr,hn,hd0⟩ (A.deeper (Wi fd s.heap.objs.size a)) (k-1):=by
  refine⟨?_,?_,(i0 (Wi fd s.heap.objs.size a::envs) (by show A.frames.map _=_;rw[e1];rfl) (fun e he=>?_)),C.hnd,C.hn⟩
  ·have:=C.room;show A.depth+1+(k-1)<WC;exact Au this hk
  ·have:=C.units;show A.units+3+10*(k-1)<cLine;exact Av this hk
  ·rcases Vv.mp he with rfl|he
   ·exact uX (by show fd.scope.kind≠.module;rw[hkind];decide) _ rfl (.inl rfl)
   ·refine HT (e2 e he) fun k1 b ob k2 k3 k4=>?_;exact uX k1 b k2 (.inr ⟨ob,k3,k4⟩)
 have tp:aR ⟨Wi fd s.heap.objs.size a,cn,cl,fr,hn,hd0⟩ (A.deeper (Wi fd s.heap.objs.size a)):=⟨(i4 envs (by show A.frames.map _=_;rw[e1];rfl)),rfl⟩
 exact uC F ao tp (hs _ ao tp) d en
def sQ(O:aO cc){a:Addr}{o:Obj}{fd:FuncData}{body:List Stmt}{vals us:List Vq}{xs fn:List Str}{cl0:List Nat}{ps:List PK}{args:List AV}{D:Nat->sx}
  (C:g_ cc k hn hd0 A fr H ad hd s)(hk:1<=k)(ho:s.heap.get? a=some o)(hdat:o.data=.func fd)(hcode:s.heap.CodeRec fd.code fd.qualname)(hbody:fd.body=.stmts body)
  (hg:fd.globals=mainGlobals)(hb:fd.builtins=W4)(hbind:Xp s fd ⟨vals,[]⟩ (xs.zip us))(hown:(ak fd.scope.names).Nodup)
  (hps:∀L,aw (DR cc ⟨envC fd L a,ak fd.scope.names++fn,(VE (ak fd.scope.names).length).map (H.length+·)++cl0,fr,hn,hd0⟩ H.length) ps xs) (hpc:∀j,PK.c j∈ps->j<(ak fd.scope.names).length)
  (hr:aw (VR ad) args us)
  (hfn:∀(j:Nat)(x:Str),fn[j]?=some x->pos? x (ak fd.scope.names)=none/\∃a i,fd.closure.lookup x=some a/\cl0[j]?=some i/\ad[i]?=some a)
  (hs:∀L,bx ⟨envC fd L a,ak fd.scope.names++fn,(VE (ak fd.scope.names).length).map (H.length+·)++cl0,fr,hn,hd0⟩ (A.deeper (envC fd L a)) (k-1)->aR ⟨envC fd L a,ak fd.scope.names++fn,(VE (ak fd.scope.names).length).map (H.length+·)++cl0,fr,hn,hd0⟩ (A.deeper (envC fd L a))->bA cc ⟨envC fd L a,ak fd.scope.names++fn,(VE (ak fd.scope.names).length).map (H.length+·)++cl0,fr,hn,hd0⟩ (A.deeper (envC fd L a)) (Wt body (envC fd L a)) (D (k-1)))
  (d:cU H.length ps args [] (H++VJ (ak fd.scope.names).length (.cell none)) (fun loc H'=>bB H H'->D (k-1) loc H' (lR Q) (fun _=>E)))(en:Ends cc hn fr H ad hd Q E R)
  (hco:fd.scope.isCoroutine=false:=by rfl) (hgen:fd.scope.isGenerator=false:=by rfl) (hkind:fd.scope.kind=.function:=by rfl):
  bE (Vt cc.prog cc.w) A (.call (.ref a) ⟨vals,[]⟩) R s:=by
 refine eK (Xw (Xl _ _) C.room) ho hdat hco hgen hbody hcode (hbind _ _ _ _ ?_);simp only[Yi,YC,V0,if_false];refine Vi (wpAny_alloc ?_);refine Vi (wpAny_layCells _ (fun name kind cells=>by induction hkc:kind==YI using Vu<;>simp[hkc]) _ _ _ _ ?_);rw[show({s with heap:=s.heap.push {cls:=.type "frame",data:=.dict #[]}}:Vo).heap.objs.size=s.heap.objs.size+1 from WS ..];generalize hL:s.heap.objs.size=L;have hlen:=C.hr.len;have hkeep1:∀b ob,s.heap.get? b=some ob->(s.heap.push {cls:=.type "frame",data:=.dict #[]}).get? b=some ob:=fun b ob e=>Vx _ e;have R1:=(C.hr.grow hkeep1).cells fd.scope.names;rw[WS,hL]at R1;have hfresh:∀b ob,s.heap.get? b=some ob->b≠L:=fun b ob e=>hL▸WO (Wb e);have hown0:L∉tot cc fr hd ad:=fun m=>by
  refine o8 (C.hr.live m) fun ob e=>?_;exact hfresh _ _ e rfl
 have hown1:L∉tot cc fr hd (ad++(VE (ak fd.scope.names).length).map (L+1+·)):=fun m=>by
  rcases Vs.mp m with m|m
  ·rcases Vs.mp m with m|m
   ·exact hown0 (Vk _ m)
   ·refine o1 (Wj.mp m) fun i _ e=>?_;exact Ih e
  ·exact hown0 (Vh _ m)
 have hns:(YS (s.heap.push {cls:=.type "frame",data:=.dict #[]}) fd.scope.names).Ns L (fun _=>none):=by
  rw[←hL];exact(Heap.Ns.new s.heap (.type "frame")).keeps (pushCells_keeps _ _)
 have T1:Tr ad H hd (ad++(VE (ak fd.scope.names).length).map (L+1+·)) (H++VJ (ak fd.scope.names).length (.cell none)) hd:=⟨VA ..,.snoc _ _,.refl _⟩
 have F:FS cc ⟨envC fd L a,ak fd.scope.names++fn,(VE (ak fd.scope.names).length).map (H.length+·)++cl0,fr,hn,hd0⟩ [] (H++VJ (ak fd.scope.names).length (.cell none)) (ad++(VE (ak fd.scope.names).length).map (L+1+·)) hd
   {s with heap:=YS (s.heap.push {cls:=.type "frame",data:=.dict #[]}) fd.scope.names}:=by
  refine⟨(i0 _ hns (fun i v e=>by cases e)),R1,hown1,hL▸C.sz,fun j x hj hx=>?_,C.hdl.tr T1,⟨C.oth.gens,C.oth.drawn,C.oth.os⟩⟩;show∃a i,(ZN (L+1) fd.scope.names fd.closure).lookup x=some a/\_;rw[cY _ _ _ hown];by_cases hlt:j<(ak fd.scope.names).length
  ·rw[VF hlt]at hj;rw[pos?_of_get hown hj];refine i1 (L+1+j) (H.length+j) rfl ?_ ?_
   ·rw[VF (by rw[VI,WE];exact hlt)];simp[hlt]
   ·rw[Vm (by exact Ii hlen),show H.length+j-ad.length=j by exact Ij hlen];simp[hlt]
  ·rw[Vm (by exact ng hlt)]at hj;refine HT (hfn _ x hj) fun h1 a' i h2 h3 h4=>?_;rw[h1];refine i1 a' i h2 ?_ (aX T1.ad h4);rw[Vm (by rw[VI,WE];exact ng hlt),VI,WE];exact h3
 have eo:ay ⟨envC fd L a,ak fd.scope.names++fn,(VE (ak fd.scope.names).length).map (H.length+·)++cl0,fr,hn,hd0⟩:=⟨hkind,hg,hb⟩
 refine Vi (pM (c:=⟨envC fd L a,ak fd.scope.names++fn,(VE (ak fd.scope.names).length).map (H.length+·)++cl0,fr,hn,hd0⟩) O eo _ (fun _ _ _=>rfl) (hps L) args us [] _ _ _ _ F (hr.mono fun _ _ x=>x.mono T1.ad)
  (fun j hj=>(i4 none (by rw[Vm (by exact Ie),show H.length+j-H.length=j by exact Ik];simp[hpc j hj]))) d fun loc' H' s' T' F' d'=>Vp ?_)
 refine⟨O.rd.nolimit.keeps F'.hr.keep,Cj ?_⟩;refine o1 C.frames fun envs e1 e2=>?_;have T2:=T1.trans T';have ao:bx ⟨envC fd L a,ak fd.scope.names++fn,(VE (ak fd.scope.names).length).map (H.length+·)++cl0,fr,hn,hd0⟩ (A.deeper (envC fd L a)) (k-1):=by
  refine⟨?_,?_,(i0 (envC fd L a::envs) (by show A.frames.map _=_;rw[e1];rfl) (fun e he=>?_)),C.hnd,C.hn⟩
  ·have:=C.room;show A.depth+1+(k-1)<WC;exact Au this hk
  ·have:=C.units;show A.units+3+10*(k-1)<cLine;exact Av this hk
  ·rcases Vv.mp he with rfl|he
   ·exact uX (by show fd.scope.kind≠.module;rw[hkind];decide) _ rfl (.inl rfl)
   ·refine HT (e2 e he) fun k1 b ob k2 k3 k4=>?_;exact uX k1 b k2 (.inr ⟨ob,k3,k4⟩)
 have tp:aR ⟨envC fd L a,ak fd.scope.names++fn,(VE (ak fd.scope.names).length).map (H.length+·)++cl0,fr,hn,hd0⟩ (A.deeper (envC fd L a)):=⟨(i4 envs (by show A.frames.map _=_;rw[e1];rfl)),rfl⟩
 exact uC F' ao tp (hs L ao tp) (d' T2.H) ⟨fun v H'' ad'' hd'' s'' x T R o r q=>en.ret v H'' ad'' hd'' s'' x (T2.trans T) R o r q,fun H'' ad'' hd'' s'' ea T R o fl q=>en.err H'' ad'' hd'' s'' ea (T2.trans T) R o fl q⟩
set_option backward.match.sparseCases false
end
section
def ub{R:Xu->Vo->Prop}(hreg:s.asleep)
  (h:bg (Vt prog w) callerA t (fun fin s'=>∃f,fin=.done f/\(R (.ok f) s'/\Zw s'.gens=false)) (fun e s'=>R (.error e) s'/\Zw s'.gens=false) s):
  ∃n r s' s'',PySem.runN (denote Zv) prog w n s ⟨t,.builtin "claim.caller" {},default,[]⟩=.halted (outcomeOf r) s'/\
   schedN (denote Zv) prog w n (.single s ⟨t,.builtin "claim.caller" {},default,[]⟩)=.halted (outcomeOf r) s'/\s'.forget=s''.forget/\R r s'':=by
 have h0:wp (Vt prog w) ⟨.builtin "claim.caller" {},none,none,[],none⟩ t (Sem.finPost (Vt prog w) ⟨.builtin "claim.caller" {},none,none,[],none⟩ fun r s'=>R r s'/\Zw s'.gens=false)
   (fun e _ s'=>R (.error e) s'/\Zw s'.gens=false) default s:=by
  refine Zr _ _ t (fun fin p' s' h'=>?_) (fun _ _ _ h'=>h') default s (h _ default caller_in (by decide+kernel) fun _ hx=>nomatch hx);refine wV fin h' fun f hf=>?_;exact hf
 refine TC (wp_halts_full (M:=Vt prog w) (R:=R) hreg h0) fun n r s₁ s₂ hs hn hfo hR=>?_;exact⟨n,r,s₂,s₁,hn,hs,hfo,hR⟩
abbrev v5(q:WU)(loose:List Str)(XP:(Str->Option Vq)->Heap->Prop)(YP:XC->Heap->Prop)(r:RowW)(d:DefRec)(kwd:List (Str×Expr))(run:Vq->List Vq->Sem Vq):Prop:=
 ∀(w:XC) (s₀ s₁:Vo) (mg mb:Str->Option Vq),Ground q loose r.records XP w s₀ mg mb s₁.heap->YP w s₁.heap->∀(a:Addr) (o:Obj) (pm cd doc dV kV:Vq),s₁.heap.get? a=some o->
  o.data=.func {docDef d.name d.params d.body d.scope pm cd doc with defaults:=dV,kwdefaults:=kV}->s₁.heap.CodeRec cd d.name->Dflts mg s₁.heap d.params kwd dV kV->mg d.name=some (.ref a)->s₁.gens=#[]->
  ∀(args:List WData) (vals:List Vq) (as:List Addr),r.claim.pre args=true->WData.layableAll args=true->ReadsAllW r.records (classAt s₀.heap) s₁.heap vals args as->WellAll w.params s₁.heap vals args->(∀a∈as,(a==sysModules)=false)->
   bg (Vt r.prog w) callerA (run (.ref a) vals) (fun v s'=>GoodWG r.claim (classAt s₀.heap) (YL s₀.heap) args s₁ (.ok (.ret v)) s')
    (fun e s'=>GoodWG r.claim (classAt s₀.heap) (YL s₀.heap) args s₁ (.error e) s') s₁
def QN{r:RowW}{q:WU}{loose defs kps:List Str}{writes:Bool}{Xt:Vo->Bool}{XP:(Str->Option Vq)->Heap->Prop}{α:Type}{Yf:Vo->α}{Ya:XC->α}{YP:XC->Heap->Prop}{N:Nat}
  (left:LeftO r.prog q loose Xt Yf Ya N) (hY:∀w s,Yf s=Ya w->YP w s.heap) (hYk:∀w h h',YP w h->(∀b o,h.get? b=some o->h'.get? b=some o)->YP w h') (hX:∀s,Xt s=true->XP (s.heap.nsMap mainGlobals) s.heap) (hXk:∀mg h h',XP mg h->(∀b o,h.get? b=some o->h'.get? b=some o)->XP mg h')
  (hRf:∀s,Xt s=true->RecFacts r.records s.heap)(hwr:(!writes||r.records.isEmpty)=true)(ok:(chainsOk q&&opensWell r.prog&&(frees r&&r.within.isEmpty))=true)(hb:r.prog.bare)(hw:r.promised)
  (pin:∀w s,s.heap.isNs mainGlobals=true->Ground q loose [] XP w s (s.heap.nsMap mainGlobals) (s.heap.nsMap W4) s.heap->∀n∈defs,isTheDefsW r.prog s.heap n)
  (call:∀(w:XC)(s₀ s₁:Vo)(mg mb:Str->Option Vq),Ground q loose r.records XP w s₀ mg mb s₁.heap->YP w s₁.heap->∀(args:List WData)(vs:List Vq)(as:List Addr),
   r.claim.pre args=true->WData.layableAll args=true->Laid r.records w s₀ s₁ args vs as->sysModules<s₀.heap.objs.size->∃f,mg r.name=some f/\
    bg (Vt r.prog w) callerA (W6 f vs) (fun v s'=>GoodWG r.claim (classAt s₀.heap) (YL s₀.heap) args s₁ (.ok (.ret v)) s')
     (fun e s'=>GoodWG r.claim (classAt s₀.heap) (YL s₀.heap) args s₁ (.error e) s') s₁):
  r.claim.HoldsOpenBy (fun vs=>⟨do match←nsGet mainNs r.name with
   |some f=>do ret (←W6 f vs)
   |none=>unsupported "claim.caller:no-such-global",.builtin "claim.caller" {},default,[]⟩) defs kps writes:=by
 refine oZ fun zq=>?_;refine kY (VS.mp ok) fun ok k5=>?_;refine kY (VS.mp ok) fun hch o1=>?_;refine kY (VS.mp k5) fun k5 k6=>?_;refine Uv (frees_parts k5) fun hsame hu ha hap hm=>?_;refine zq ?_;refine⟨⟨hb,o1,by show r.makers.map _=[];rw[hm];rfl⟩,hw.witness,fun w=>⟨(left.behind hX hch w).1,fun s' hs'=>?_⟩⟩;refine U3 ((left.behind (XP:=fun mg h=>XP mg h/\RecFacts r.records h) (fun s hs=>⟨hX s hs,hRf s hs⟩) hch w).2 s' hs') fun s₀ hf hg0 s hT hz hgens hg G00 y=>?_;have G0:Ground q loose [] XP w s (s.heap.nsMap mainGlobals) (s.heap.nsMap W4) s.heap:=⟨G00.T,G00.B,G00.D,G00.TE,G00.TD,G00.W,G00.X.1,G00.cls,G00.has,G00.apart,G00.once,G00.K⟩
 have RF:=G00.X.2;have hgens:s.gens=#[]:=Array.eq_empty_of_size_eq_zero (beq_iff_eq.mp hgens);have G:Ground q loose r.records XP w s _ _ s.heap:=RF.ground G0;have hwi:r.claim.within=[]:=Z6.mp k6;refine⟨s₀,hf,hg0,s,hT,pin w s hg G0,RF.1,RF.2.1,fun args hpre hlay ord hord=>?_⟩;refine oZ fun zq=>?_;obtain⟨⟨vs,s₁⟩,hlaid⟩:=Option.isSome_iff_exists.mp (layAllW_isSome (P:=w.params) (ord:=ord) G.has args r.args s (pre_splitW hpre).1);have keeps:=layAllW_keeps _ _ _ hlaid;have hal:=layAllW_rest _ _ _ hlaid;refine eD (reads_layAllW hord _ _ _ hlaid hlay s₁.heap (fun _ _ e=>e)) fun as hrd hin hold=>?_;have L:Laid r.records w s s₁ args vs as:=⟨(i0 ord hord hlaid),hrd,hin,hold,keeps,hal.1.trans hgens,hal.2.2.1⟩
 have G₁:=G.keeps hXk keeps;obtain⟨f,hf,hrun0⟩:=call w s s₁ _ _ G₁ (hYk _ _ _ (hY w s y) keeps) args vs as hpre hlay L G.low;have hi:=ident_freeW hu ha hap;obtain⟨k,rr,s2,s3,hrun,hsched,hfo,hcase,hos,hkp⟩:=ub (prog:=r.prog) (w:=w) (s:=s₁)
  (t:=do match←nsGet mainNs r.name with
   |some f=>do ret (←W6 f vs)
   |none=>unsupported "claim.caller:no-such-global")
  (R:=fun rr s'=>r.claim.Ends s args vs s₁ rr s'/\s'.os=s.os/\(writes=true->namesKept r.prog kps s.heap s'.heap/\∀x∈r.records,∀a,classAt s.heap x.1=some a->recordClass s'.heap a x.1 (x.2.map (·.1))=true))
  (Shared.asleep_of_life hal.2.2.2 hz)
  (af (wpAny_nsGet G₁.T.g (by
   rw[hf];refine ag (aT hrun0 (fun v s' g=>ai (i0 _ rfl ?_)) fun e s' g=>?_)
   ·have z:=g.laid (c:=r.claim) hsame hwi hi L;exact⟨⟨z.1,z.2.1,fun q=>⟨namesKept_of hT hg kps keeps g.2.1.old,noTable hwr q⟩⟩,leftWithCleanup_false_of_bare z.2.2⟩
   ·have z:=g.laid (c:=r.claim) hsame hwi hi L;exact⟨⟨z.1,z.2.1,fun q=>⟨namesKept_of hT hg kps keeps g.2.1.old,noTable hwr q⟩⟩,leftWithCleanup_false_of_bare z.2.2⟩)))
 refine Uv (Shared.forget_eq hfo) fun eh _ _ eo _=>?_;have hcase:=hcase.congr eh;rw[←eh]at hkp;rw[←eo]at hos;have hlife:s2.heap.life=s.heap.life:=(runN_life _ _ _ hrun).trans hal.2.2.2;refine zq ?_;refine⟨vs,s₁,hlaid,k,_,s2,hsched,?_,(fun _ i x hx=>by rw[hgens]at hx;simp at hx),hkp,by rw[hlife],Shared.rest_eq hos⟩;rcases hcase with⟨v,rfl,d1,d2,d3,d4,d5⟩|⟨e,ob,cls,rfl,d1,d2,d3,d4,d5⟩
 ·exact .inl ⟨v,rfl,d1,d2,d3,fun b o y _=>d4 b o y,d5⟩
 ·exact .inr ⟨e,ob,cls,rfl,d1,d2,d3,d4,fun b o y _=>d5 b o y⟩
def JB{r:OpenRow}{q:WU}{loose:List Str}{Xt:Vo->Bool}{XP:(Str->Option Vq)->Heap->Prop}{α:Type}{Yf:Vo->α}{Ya:XC->α}{YP:XC->Heap->Prop}{d:DefRec}{kwd:List (Str×Expr)}{N:Nat}
  (left:LeftO r.prog q loose Xt Yf Ya N) (hY:∀w s,Yf s=Ya w->YP w s.heap) (hYk:∀w h h',YP w h->(∀b o,h.get? b=some o->h'.get? b=some o)->YP w h')
  (hX:∀s,Xt s=true->XP (s.heap.nsMap mainGlobals) s.heap) (hXk:∀mg h h',XP mg h->(∀b o,h.get? b=some o->h'.get? b=some o)->XP mg h')
  (hdef:defOf q r.name=some (d,kwd))(hp:r.prog.theDef r.name=some (d.params,d.body,d.scope))(hk:kwWritten? d.params.kwonlyargs d.params.kw_defaults=some kwd) (hRf:∀s,Xt s=true->RecFacts r.records s.heap)(hwr:(!r.writes||r.records.isEmpty)=true)
  (k1:r.wellSaid=true)(ok:(chainsOk q&&opensWell r.prog&&(frees r.toRowW&&r.within.isEmpty))=true)(hb:r.prog.bare)(hw:r.toRowW.promised)
  (call:v5 q loose XP YP r.toRowW d kwd fun f vs=>W6 f vs):r.Holds:=by
 refine⟨k1,hw,QN (r:=r.toRowW) left hY hYk hX hXk hRf hwr ok hb hw
  (fun w s hg G n hn=>?_) fun w s₀ s₁ mg mb G Y args vs as hpre hlay L low=>?_⟩
 ·obtain rfl:n=r.name:=by split at hn<;>simp_all
  exact pinned_of_view hg G hdef hp hk
 ·refine U4 (G.fn hdef) fun a o pm cd doc dV kV h1 h2 h3 h4 h5=>?_;exact i0 (.ref a) h1 (call w s₀ s₁ mg mb G Y a o pm cd doc dV kV h2 h3 h4 h5 (defOf_name hdef▸h1) L.gens args vs as hpre hlay L.reads L.well (L.low low))
end
end Mine
end
section
namespace Mine
open PySem PySem.W PyProof.Rows PySem.Calls
section
def left:LeftO i_ fP j6 Dn dS.obs dS.val 4282:=fun w=>by
 obtain⟨⟨h,gs,d,k,os⟩,e,e'⟩:=VK.mp (E_ w);obtain⟨rfl,rfl,rfl,rfl⟩:h=WY w.params/\gs=#[]/\d=boot_drawn/\k=boot_toks:=by simpa using e'
 obtain⟨z1,z2,z3⟩:_/\_/\_:=by simpa only [Prod.mk.injEq]using FA w
 obtain⟨x,hx,hl⟩:=VK.mp (J1 w os);obtain⟨l1,l2,l3⟩:_/\_/\_:=by simpa only [Prod.mk.injEq]using hl
 have r:=qU hx;rw[Bs]at r;have t:topFrom treeTable i_ w 4282 ⟨WY w.params,#[],boot_drawn,boot_toks,os⟩=some x.abs:=by
  unfold topFrom;dsimp only;rw[z1,z2,r];show(match staticsOk (importedModules i_.main.body) (WY w.params) x.abs.heap&&namesBound i_ x.abs.heap&&gensDone x.abs&&laidKept (WY w.params) x.abs.heap with|true=>_|false=>_)=_;rw[l1]
 unfold openEnds;rw[e];show(topFrom treeTable i_ w 4282 _).map _=_;rw[t];exact congrArg some (Prod.ext l2 l3)
theorem headOk(walk:∀d kwd,d.name=Vg "law"->v5 fP j6 (XL fP []) dS.says qT d kwd fun f vs=>W6 f vs):PySem.Challenge.rw_sa0470_01.Holds:=by
 refine holds_law (by kernel_rfl) fun said=>?_;exact JB (q:=fP) (loose:=j6) (Xt:=Dn) (XP:=XL fP []) (Yf:=dS.obs) (Ya:=dS.val) (YP:=dS.says) (N:=4282) left dS.of dS.keeps
  (fun s e=>xl_of s (VS.mp e).1) XL.keeps rfl rfl rfl (fun s e=>recFacts_of (VS.mp e).2) rfl said (by decide+kernel) ⟨rfl,rfl,rfl,rfl,rfl,by decide+kernel⟩
  ⟨[.list []],by decide+kernel,by decide+kernel⟩ (walk _ _ rfl)
end
section
variable{cc:CC}{c:FC}{A:VN}{Γ:cM}{ct:CT}{k:Nat}{H:AH}{ad:List Addr}{hd:Hid}{s:Vo}{fr:List (Addr×Obj)}{hn:Bool}{hd0:Option Addr}
variable{Q:QE}{E:AH->Prop}{R:Xu->Vo->Prop}
noncomputable def aS(K:Frag)(a:Addr):FuncData:=match K.lookup a with|some ⟨_,_,.func fd,_⟩=>fd|_=>default
noncomputable def aW:FuncBody->List Stmt|.stmts b=>b|_=>[]
noncomputable def pU(K:Frag)(c:Vq)(q:Str):Bool:=match c with
 |.ref a=>(match K.lookup a with
  |some ⟨_,_,.fields vs,_⟩=>(match(vs[1]?:Option Vq)with|some (.str q' _)=>q'==q|_=>false)
  |_=>false)
 |_=>false
set_option tactic.hygienic true in
def eM{K:Frag}{c:Vq}(X:K.In h)(e:pU K c q=true):h.CodeRec c q:=by
 delta pU at e;induction c using YO with
 |ref a=>
  dsimp only at e;induction ho:K.lookup a using Option.casesOn with
  |none=>rw[ho]at e;injection e
  |some ob=>
   obtain⟨o1,o2,dt,o4⟩:=ob;rw[ho]at e;induction dt using Data.casesOn with
   |fields vs=>
    dsimp only at e;induction hv:(vs[1]?:Option Vq)using Option.casesOn with
    |none=>rw[hv]at e;injection e
    |some v=>
     rw[hv]at e;induction v using YO with
     |str q' t=>
      have:=beq_iff_eq.mp e;subst this;exact⟨a,_,_,t,rfl,X _ _ ho,rfl,hv⟩
     |_=>injection e
   |_=>injection e
 |_=>injection e
noncomputable def qD(l:List (Str×Wf)):Bool:=l.all fun x=>match x.2 with|.cell=>false|_=>true
def fE(h:qD l=true):∀x∈l,x.2≠.cell:=fun x hx e=>by
 have:=Xi.mp h x hx;rw[e]at this;injection this
theorem fM{α:Type}{x:Str}:∀{l:List (Str×α)}{v:α},l.lookup x=some v->(x,v)∈l
 |[],_,e=>by injection e
 |(y,u)::r,v,e=>by
  rw[W5]at e
  split at e
  ·rename_i q;(injection e with e;subst e);rw[beq_iff_eq.mp q];exact Vl ..
  ·exact Vj _ (fM e)
def fZ(h:qD l=true)(x:Str):l.lookup x≠some .cell:=fun e=>fE h _ (fM e) rfl
theorem fX{α:Type}{x:Str}{u:α}:∀{l:List (Str×α)},(l.map (·.1)).Nodup->(x,u)∈l->l.lookup x=some u
 |(y,v)::r,hn,hm=>by
  rw[VL,VQ]at hn;rw[W5];rcases Vv.mp hm with e|hm
  ·cases e;rw[beq_self_eq_true]
  ·have:(x==y)=false:=beq_eq_false_iff_ne.mpr fun q=>hn.1 (Wj.mpr (i0 ((x,u)) hm q));rw[this];exact fX hn.2 hm
theorem CD:∀{ps:List Nat}{vs:List AV},lk i (ps.zip vs)=some v->∃j:Nat,ps[j]?=some i/\vs[j]?=some v
 |[],_,e=>by rw[YQ]at e;injection e
 |_::_,[],e=>by rw[W7]at e;injection e
 |p::ps,u::vs,e=>by
  rw[WN]at e;induction q:p==i using Vu with
  |true=>rw[show lk i ((p,u)::ps.zip vs)=_ from kf ..,if_pos (beq_iff_eq.mp q)]at e;(injection e with e;subst e);exact i0 0 (by rw[beq_iff_eq.mp q];rfl) rfl
  |false=>rw[show lk i ((p,u)::ps.zip vs)=_ from kf ..,if_neg (ne_of_beq_false q)]at e;refine o1 (CD e) fun j a b=>?_;exact i0 (j+1) a b
theorem yJ:∀{xs:List Str}{us:List Vq}{j:Nat},xs[j]?=some x->us[j]?=some u->(x,u)∈xs.zip us
 |y::xs,w::us,0,e1,e2=>by(injection e1 with e1;subst e1);(injection e2 with e2;subst e2);exact Vl ..
 |y::xs,w::us,j+1,e1,e2=>Vj _ (yJ (j:=j) (by simpa using e1) (by simpa using e2))
theorem vV:∀(xs:List Str)(us:List Vq),((xs.zip us).map (·.1)).Sublist xs
 |[],us=>by rw[YQ];exact Yp _
 |x::xs,[]=>by rw[W7];exact List.nil_sublist _
 |x::xs,u::us=>by rw[WN,VL];exact(vV xs us).cons_cons x
def lL{ps:List Nat}{xs:List Str}(hnm:ps.map (nm[·]?)=xs.map some)(hn:xs.Nodup)(r:aw (VR ad) vs us):
  dk nm ad (ps.zip vs) (fun x=>(xs.zip us).reverse.lookup x):=by
 intro i v e;refine o1 (CD e) fun j h1 h2=>?_;refine o1 (r.get h2) fun u h3 h4=>?_;have h5:=congrArg (fun l=>l[j]?) hnm;simp only[Ww,h1,Y5]at h5;induction hx:xs[j]? using Option.casesOn with
 |none=>rw[hx]at h5;injection h5
 |some x=>
  rw[hx]at h5;refine i1 x u (by simpa using h5) (fX ?_ (List.mem_reverse.mpr (yJ hx h3))) h4;rw[List.map_reverse];exact(List.reverse_perm _).nodup_iff.mpr (List.Nodup.sublist (vV xs us) hn)
def j9{x:Str×Vq}{xs:List Str}{us:List Vq}(h:x∈xs.zip us):x.1∈xs:=(List.of_mem_zip (a:=x.1) (b:=x.2) h).1
structure lV(K:Frag)(a:Addr)(xs:List Str)(ps:List Nat)(ir:IS):Prop where
 obj:K.lookup a=some {cls:=.type "function",data:=.func (aS K a)}
 code:pU K (aS K a).code (aS K a).qualname=true
 body:(aS K a).body=.stmts (aW (aS K a).body)
 g:(aS K a).globals=mainGlobals
 b:(aS K a).builtins=W4
 cell:qD (aS K a).scope.names=true
 loc:xs.map (fun x=>(aS K a).scope.names.lookup x)=xs.map (fun _=>some .local)
 nm:ps.map (bC.nm[·]?)=xs.map some
 nod:xs.Nodup
 ir:compSs bC [] 200 (aS K a).scope (aW (aS K a).body)=ir
 co:(aS K a).scope.isCoroutine=false
 gen:(aS K a).scope.isGenerator=false
 kind:(aS K a).scope.kind=.function
def fY{f:Str->Option Wf}{xs:List Str}(h:xs.map f=xs.map (fun _=>some .local)):∀x∈xs,f x=some .local:=by
 induction xs with
 |nil=>intro x hx;cases hx
 |cons y r ih=>
  simp only[VL,List.cons.injEq]at h;intro x hx;rcases Vv.mp hx with rfl|hx
  ·exact h.1
  ·exact ih h.2 x hx
structure Aa(cc:CC)(Γ:cM):Prop where
 O:aO cc
 LO:kD cc
 V:az cc Γ
 MO:pD cc Γ.init
 T:cc.T=bC
def pQ(G:Aa cc Γ){a:Addr}{xs:List Str}{ps:List Nat}{ir:IS}(F:lV cc.K a xs ps ir){args extra:List AV}{exv:List Vq}(hex:aw (VR ad) extra exv)
  (hbind:∀(s:Vo)(vals:List Vq),cc.K.In s.heap->vals.length=args.length->Xp s (aS cc.K a) ⟨vals,[]⟩ (xs.zip (vals++exv)))(hk:1<=k)
  (vc:aj Γ ct [] (k-1) hn ir (ps.zip (args++extra)) H (lR Q) (fun _=>E)):aH cc k hn (.ref a) args H ad hd Q E:=by
 intro hd0 A fr s vals R C hr q e;have K1:cc.K.In s.heap:=G.O.inG.keeps C.hr.keep;refine oj G.O C hk (K1 _ _ F.obj) rfl (eM K1 F.code) F.body F.g F.b (hbind s vals K1 hr.length.symm) (fE F.cell) (fun x hx=>fY F.loc _ (j9 hx)) (loc0:=ps.zip (args++extra)) (D:=fun k'=>aj Γ ct [] k' hn ir) (cn:=[]) (cl:=[])
  (by rw[G.T];exact lL F.nm F.nod (hr.append hex)) (fun j x e=>by injection e) (fZ F.cell) (fun L ao tp=>?_) vc ⟨q,e⟩ F.co F.gen F.kind
 have:=(lM (ct:=ct) (mv cc) G.O G.LO G.V G.MO 200).ss ⟨Wi (aS cc.K a) L a,[],[],fr,hn,hd0⟩ _ (k-1) (aS cc.K a).scope (aW (aS cc.K a).body) ao ⟨F.kind,F.g,F.b⟩ tp (aN.refl _);rw[G.T,F.ir]at this;exact this
end
section
def Qd(P:VC):lV (KP P) 70 ["c"] [3] jE:=by constructor<;>first|kernel_rfl|decide+kernel
def Qe(P:VC):lV (KP P) 77 ["c"] [3] jK:=by constructor<;>first|kernel_rfl|decide+kernel
def Qg(P:VC):lV (KP P) 84 ["c"] [3] jC:=by constructor<;>first|kernel_rfl|decide+kernel
def Qh(P:VC):lV (KP P) 91 ["c"] [3] jD:=by constructor<;>first|kernel_rfl|decide+kernel
def I7(P:VC):lV (KP P) 126 ["c","letter"] [3,5] jA:=by constructor<;>first|kernel_rfl|decide+kernel
def I8(P:VC):lV (KP P) 141 ["self","text","pattern","depth","tick"] [0,8,9,10,11] sZ:=by constructor<;>first|kernel_rfl|decide+kernel
def I9(P:VC):lV (KP P) 148 ["self"] [0] qm:=by constructor<;>first|kernel_rfl|decide+kernel
def I_(P:VC):lV (KP P) 155 ["self"] [0] qs:=by constructor<;>first|kernel_rfl|decide+kernel
def I'(P:VC):lV (KP P) 162 ["self","p"] [0,1] xY:=by constructor<;>first|kernel_rfl|decide+kernel
def Ja(P:VC):lV (KP P) 169 ["self","p"] [0,1] h_:=by constructor<;>first|kernel_rfl|decide+kernel
def Jb(P:VC):lV (KP P) 176 ["self","c","p","last"] [0,3,1,16] nF:=by constructor<;>first|kernel_rfl|decide+kernel
def Jc(P:VC):lV (KP P) 183 ["self","s","p","end"] [0,2,1,4] ig:=by constructor<;>first|kernel_rfl|decide+kernel
def Jd(P:VC):lV (KP P) 190 ["self","s","p"] [0,2,1] qo:=by constructor<;>first|kernel_rfl|decide+kernel
def Je(P:VC):lV (KP P) 197 ["self","s","p"] [0,2,1] fV:=by constructor<;>first|kernel_rfl|decide+kernel
def Jf(P:VC):lV (KP P) 204 ["self","s","p","letter"] [0,2,1,5] dJ:=by constructor<;>first|kernel_rfl|decide+kernel
def Jg(P:VC):lV (KP P) 211 ["self","s","p"] [0,2,1] dD:=by constructor<;>first|kernel_rfl|decide+kernel
def Jh(P:VC):lV (KP P) 225 ["self","s","p","end"] [0,2,1,4] eR:=by constructor<;>first|kernel_rfl|decide+kernel
def Ji(P:VC):lV (KP P) 232 ["self","s","p","end"] [0,2,1,4] eg:=by constructor<;>first|kernel_rfl|decide+kernel
def Jj(P:VC):lV (KP P) 239 ["self","s","p","kind"] [0,2,1,26] dK:=by constructor<;>first|kernel_rfl|decide+kernel
def Jk(P:VC):lV (KP P) 246 ["self","s","p"] [0,2,1] eQ:=by constructor<;>first|kernel_rfl|decide+kernel
def Jl(P:VC):lV (KP P) 253 ["self"] [0] jL:=by constructor<;>first|kernel_rfl|decide+kernel
def Jm(P:VC):lV (KP P) 267 ["self","number","s","end"] [0,27,2,4] lC:=by constructor<;>first|kernel_rfl|decide+kernel
def Qb(P:VC):lV (KP P) 28 ["value"] [32] ef:=by constructor<;>first|kernel_rfl|decide+kernel
def Jn(P:VC):lV (KP P) 293 ["size","begin","is_bound","ends_at"] [29,22,38,39] eS:=by constructor<;>first|kernel_rfl|decide+kernel
def Jo(P:VC):lV (KP P) 300 ["begin","end"] [22,4] ed:=by constructor<;>first|kernel_rfl|decide+kernel
def Jp(P:VC):lV (KP P) 308 ["bag","many"] [41,25] lH:=by constructor<;>first|kernel_rfl|decide+kernel
def Jq(P:VC):lV (KP P) 336 ["text","pattern"] [8,9] jM:=by constructor<;>first|kernel_rfl|decide+kernel
def Jr(P:VC):lV (KP P) 343 ["text","spans"] [8,44] lG:=by constructor<;>first|kernel_rfl|decide+kernel
noncomputable def IA(qual:Str)(free:List Str):Stmt->z_
 |.FunctionDef name params body _ _ _ scope _ _ pos=>⟨name,qual,params,body,scope,free,pos⟩
 |_=>⟨Str.empty,qual,⟨[],[],none,[],[],none,[]⟩,[],default,free,default⟩
noncomputable def hd0(l:List Stmt):Stmt:=l.headD (.Pass default)
noncomputable def aU(K:Frag):Nat->z_
 |0=>IA "_law_ends.<locals>.ends_at" [Vg "matcher"] (hd0 (aW (aS K 315).body))
 |1=>IA "_law_give.<locals>.give" [Vg "news",Vg "matcher"] (hd0 (aW (aS K 322).body))
 |_=>IA "_law_give.<locals>.give.<locals>.held" [Vg "matcher",Vg "end",Vg "begin"] (match hd0 (aW (aS K 322).body)with|.FunctionDef _ _ body _ _ _ _ _ _ _=>hd0 body|s=>s)
noncomputable def sM(prog:WU)(w:XC)(s:Vo)(p:WU)(loose:List Str)(mean:Zu->Option Vq)(mg mb:Str->Option Vq):CC where
 prog:=prog
 w:=w
 K:=KP w.params
 G:=TI.gone s.heap [310,317]
 T:=bC
 p:=p
 loose:=loose
 mean:=mean
 mg:=mg
 mb:=mb
 cls:=282
 lua:=60
 cdat:=aU (KP w.params)
 tE:=310
 tG:=317
 gens:=s.gens
 drawn:=s.drawn
 os:=s.os
noncomputable def Ju(K:Frag)(cls:Addr)(p:Str×GV):Bool:=match p.2 with
 |.int i=>(match nsIn K mainGlobals p.1 with|some (some (.int j _))=>i==j|_=>false)
 |.fn a=>nsIn K mainGlobals p.1==some (some (.ref a))&&Zp K (.ref a)
 |.cls=>nsIn K mainGlobals p.1==some (some (.ref cls))&&Zp K (.ref cls)
 |.obj a=>nsIn K mainGlobals p.1==some (some (.ref a))
set_option tactic.hygienic true in
def Jw(X:cc.K.In h)(T:h.Ns mainGlobals cc.mg)(e:Ju cc.K cc.cls p=true):T7 cc p.1 p.2:=by
 obtain⟨x,g⟩:=p;delta Ju at e;dsimp only at e;induction g using GV.casesOn with
 |int i=>
  dsimp only at e;induction q:nsIn cc.K mainGlobals x using Option.casesOn with
  |none=>rw[q]at e;injection e
  |some v=>
   rw[q]at e;induction v using Option.casesOn with
   |none=>injection e
   |some v=>
    induction v using YO with
    |int j t=>exact⟨t,by rw[mg_of X T q,beq_iff_eq.mp e]⟩
    |_=>injection e
 |fn a=>
  simp only[VU,beq_iff_eq]at e;exact⟨mg_of X T e.1,e.2⟩
 |cls=>
  simp only[VU,beq_iff_eq]at e;exact⟨mg_of X T e.1,e.2⟩
 |obj a=>
  simp only[beq_iff_eq]at e;exact mg_of X T e
def uc(T:TopRead p loose mg mb h)(h1:mainGlobals∉l)(h2:W4∉l)(h3:cStatics∉l):TopRead p loose mg mb (TI.gone h l):=by
 obtain⟨⟨o,es,ep,a,b⟩,⟨o',es',ep',a',b'⟩,⟨mc,⟨o2,es2,ep2,a2,b2⟩,hm⟩,x,y⟩:=T;exact⟨(Qk o es ep ((XY h1).trans a) b),(Qk o' es' ep' ((XY h2).trans a') b'),(i0 mc ⟨o2,es2,ep2,(XY h3).trans a2,b2⟩ hm),x,y⟩
noncomputable def AD(K:Frag)(l:List Addr):Bool:=K.all fun p=> !l.contains p.1
def xW{K:Frag}(X:K.In h)(e:AD K l=true):K.In (TI.gone h l):=fun a o q=>by
 have:=Xi.mp e (a,o) (by
  clear e X;induction K with
  |nil=>injection q
  |cons p r ih=>
   obtain⟨b,x⟩:=p;simp only[Yn]at q
   split at q
   ·rename_i z;(injection q with q;subst q);rw[beq_iff_eq.mp z];exact Vl ..
   ·exact Vj _ (ih q))
 rw[XY (by simpa using this)];exact X a o q
noncomputable def xJ(K:Frag)(cls:Addr)(x:Str):Bool:=(match findIn K (.ref cls) x with|some a=>noGet K a|none=>false)&&takerIn K cls x==some none
noncomputable def yj(K:Frag)(cls:Addr)(an:List Str)(p:Str×Addr):Bool:=findIn K (.ref cls) p.1==some (some (.ref p.2))&&isFn K (.ref p.2)&&Zp K (.ref p.2)&& !(an.take 8).contains p.1
def Cr(P:VC):AD (KP P) [310,317]=true:=by kernel_rfl
def EU(P:VC):bC.gl.all (Ju (KP P) 282)=true:=by kernel_rfl
def JJ(P:VC):(bC.an.take 8).all (xJ (KP P) 282)=true:=by kernel_rfl
def JL(P:VC):bC.mt.all (yj (KP P) 282 bC.an)=true:=by kernel_rfl
def EV(P:VC)(x:Str):plainGet (KP P) 282 x=true:=by kernel_rfl
def JK(P:VC):hasDictIn (KP P) 282=true:=by kernel_rfl
def JN(P:VC):findIn (KP P) (.ref 282) (Vg "__setattr__")=some (some (.builtin "object.__setattr__")):=by kernel_rfl
def JM(P:VC):plainOver (KP P) 282=true:=by kernel_rfl
def Qq(P:VC):nsIn (KP P) mainGlobals (Vg "len")=some none:=by kernel_rfl
def ET(P:VC):nsIn (KP P) mainGlobals (Vg "bytes")=some none:=by kernel_rfl
def u7(P:VC):nsIn (KP P) mainGlobals (Vg "bytearray")=some none:=by kernel_rfl
def s_(P:VC):nsIn (KP P) mainGlobals (Vg "isinstance")=some none:=by kernel_rfl
def EW(P:VC):nsIn (KP P) mainGlobals (Vg "range")=some none:=by kernel_rfl
def E4:pD (sM prog w s p loose mean mg mb) 141:=by
 constructor
 ·show makesIn (KP w.params) 282=true
  kernel_rfl
 ·show findIn (KP w.params) (.ref 282) (Vg "__init__")=some (some (.ref 141))
  kernel_rfl
 ·show typeIn (KP w.params) (.ref 141)=some (.type "function")
  kernel_rfl
section
variable{prog:WU}{w:XC}{s:Vo}{p:WU}{loose:List Str}{mean:Zu->Option Vq}{mg mb:Str->Option Vq}
def Ei(X:(KP w.params).In s.heap)(T:TopRead p loose mg mb s.heap):aO (sM prog w s p loose mean mg mb)where
 inG:=xW X (Cr _)
 rd:=uc T (by decide) (by decide) (by decide)
 an:=by show bC.an.Nodup;decide+kernel
 nm:=by show bC.nm.Nodup;decide+kernel
 globs:=fun x g e=>Jw (cc:=sM prog w s p loose mean mg mb) X T.g (p:=(x,g)) (Xi.mp (EU w.params) (x,g) (fM e))
 bi:=fun x hx=>by
  simp only[Vv,WD,or_false]at hx;have b:∀(n:Str) (v:Vq),n≠Vg "__name__"->bootBuiltins n=some v->mb n=some v:=fun n v hn e=>by rw[T.builtins n hn,e]
  rcases hx with rfl|rfl|rfl|rfl|rfl
  ·exact⟨X9 X T.g (Qq _),b _ _ (by decide+kernel) (by kernel_rfl)⟩
  ·exact⟨X9 X T.g (ET _),b _ _ (by decide+kernel) (by kernel_rfl)⟩
  ·exact⟨X9 X T.g (u7 _),b _ _ (by decide+kernel) (by kernel_rfl)⟩
  ·exact⟨X9 X T.g (s_ _),b _ _ (by decide+kernel) (by kernel_rfl)⟩
  ·exact⟨X9 X T.g (EW _),b _ _ (by decide+kernel) (by kernel_rfl)⟩
 plain:=EV _
 hasD:=JK _
 attr:=fun i x e hi=>by
  have:=Xi.mp (JJ w.params) x (VP (i:=i) (by rw[YJ,if_pos hi];exact e));unfold xJ at this;simp only[VU,beq_iff_eq]at this;refine⟨?_,this.2⟩;refine kY this fun a _=>?_
  split at a
  ·rename_i y hy;exact i0 y hy a
  ·injection a
 seta:=JN _
 over:=JM _
 meth:=fun x f e=>by
  have:=Xi.mp (JL w.params) (x,f) (fM e);unfold yj at this;simp only[VU,beq_iff_eq,Bool.not_eq_true']at this;refine UY this fun a b c d=>?_;refine⟨a,b,c,fun i hi q=>?_⟩;have hm:x∈bC.an.take 8:=VP (i:=i) (by rw[YJ,if_pos hi];exact q);rw[List.contains_iff_mem.mpr hm]at d;injection d
end
end
section
variable{prog:WU}{w:XC}{s:Vo}{p:WU}{loose:List Str}{mean:Zu->Option Vq}{mg mb:Str->Option Vq}
set_option tactic.hygienic true in
def wQ{K:Frag}(X:K.In h)(G:h.Ns N m)(e:nsIn K N n=some (some v)):m n=some v:=by
 refine RB G fun o es ep ho hd _ hf=>?_;induction hl:K.lookup N using Option.casesOn with
 |none=>delta nsIn at e;rw[hl]at e;injection e
 |some ob=>
  have:=X _ _ hl;rw[ho]at this;(injection this with this;subst this);obtain⟨_,_,dt,_⟩:=o;obtain rfl:dt=_:=hd;delta nsIn at e;rw[hl]at e;rw[←hf];delta nsFind findBy;rw[←Array.find?_toList];change(match es.toList.find? (·.key.isStr n)with|some en=>some (some en.val)|none=>if es.toList.any (·.refKey)then none else some none)=_ at e;induction hq:es.toList.find? (·.key.isStr n)using Option.casesOn with
  |none=>
   rw[hq]at e;exact absurd e (nL (P:=fun z=>z≠some (some v)) (fun _ z=>nomatch z) (fun _ z=>nomatch z))
  |some en=>rw[hq]at e;injection e
def B7(T:Top p loose' mean mg mb s.heap)(hT:∀P∈[317,310],s.heap.get? P=some (Wz #[])):ri (sM prog w s p loose mean mg mb)where
 bmain:=by
  refine Uu T.bmain fun bm ob b1 b2 b3 b4 b5 b6=>?_;refine⟨bm,ob,b1,b2,?_,b4,b5,b6⟩;refine(XY fun hm=>?_).trans b3;have:s.heap.get? bm=some (Wz #[]):=hT bm (by
   simp only[Vv,WD,or_false]at hm⊢;exact hm.symm)
  rw[b3]at this;(injection this with this;subst this);cases b6
noncomputable def Ti:Nat->Pos
 |0=>⟨49,8,49,12⟩|1=>⟨49,8,49,18⟩|2=>⟨49,21,49,26⟩|3=>⟨49,8,49,26⟩
 |4=>⟨50,8,50,12⟩|5=>⟨50,8,50,18⟩|6=>⟨50,21,50,23⟩|7=>⟨50,8,50,23⟩
 |8=>⟨51,8,51,12⟩|9=>⟨51,8,51,26⟩|10=>⟨51,29,51,34⟩|_=>⟨51,8,51,34⟩
def CF(X:(KP w.params).In s.heap)(T:TopRead p loose mg mb s.heap):kD (sM prog w s p loose mean mg mb)where
 cls:=by
  have XG:(KP w.params).In (sM prog w s p loose mean mg mb).G:=xW X (Cr _);have hN:=Heap.Ns.of_isNs (isNs_of_in (N:=59) XG (by kernel_rfl));refine⟨57,⟨59,_,"LuaError","LuaError",[.type "Exception"],[],[],false,none,none,some (.ref 44),none,some (.str "LuaError" 238),some (.str "LuaError" 246),some (.bool true),
   XG _ _ (by show(KP w.params).lookup 60=_;kernel_rfl),hN,X9 XG hN (by kernel_rfl),X9 XG hN (by kernel_rfl),X9 XG hN (by kernel_rfl),X9 XG hN (by kernel_rfl),wQ XG hN (by kernel_rfl)⟩,
   ⟨_,aS (KP w.params) 57,Ti,0,XG _ _ (show(KP w.params).lookup 57=some {cls:=.type "function",data:=.func (aS (KP w.params) 57)} by kernel_rfl),rfl,rfl,?_,eM XG (by kernel_rfl),fun a b=>?_,fE ?_,?_,?_,?_,?_,?_⟩⟩
  all_goals kernel_rfl
 glob:=mg_of X T.g (by show nsIn (KP w.params) mainGlobals _=_;kernel_rfl)
 keep:=by show Zp (KP w.params) (.ref 60)=true;kernel_rfl
end
section
def Cz{l:List Vq}{n:Nat}(h:l.length=n+1):∃a t,l=a::t/\t.length=n:=by
 induction l using Vr with
 |nil=>injection h
 |cons a t=>exact i2 a t rfl (YT h)
def nO{l:List Vq}(h:l.length=1):∃a,l=[a]:=by
 refine Kf l (Cz h) fun a t z=>?_;exact⟨a,congrArg _ (Yo z)⟩
def qy{l:List Vq}(h:l.length=2):∃a b,l=[a,b]:=by
 refine Kf l (Cz h) fun a t z=>?_;refine cX t (nO z) fun b=>?_;exact i5 a b rfl
def zu{l:List Vq}(h:l.length=3):∃a b c,l=[a,b,c]:=by
 refine Kf l (Cz h) fun a t z=>?_;refine uf t (qy z) fun b c=>?_;exact⟨a,b,c,rfl⟩
def rh{l:List Vq}(h:l.length=4):∃a b c d,l=[a,b,c,d]:=by
 refine Kf l (Cz h) fun a t z=>?_;refine Kg t (zu z) fun b c d=>?_;exact⟨a,b,c,d,rfl⟩
def Qs{l:List Vq}(h:l.length=5):∃a b c d e,l=[a,b,c,d,e]:=by
 refine Kf l (Cz h) fun a t z=>?_;refine z9 t (rh z) fun b c d e=>?_;exact⟨a,b,c,d,e,rfl⟩
structure bh(cc:CC)(gl:GL):Prop where
 K:cc.K=KP cc.w.params
 O:aO cc
 LO:kD cc
 MO:pD cc 141
 D:ri cc
 T:cc.T=bC
 cd:cc.cdat=aU cc.K
 tE:cc.tE=310
 tG:cc.tG=317
 gl:∀a xs,gl a=some xs->∃vs n,cc.G.get? a=some (W.listOf vs n)/\∀ad,aw (VR ad) xs vs.toList
variable{cc:CC}{gl:GL}{n k:Nat}{H:AH}{ad:List Addr}{hd:Hid}{hn:Bool}{Q:QE}{E:AH->Prop}{args:List AV}
def bh.good(B:bh cc gl)(V:az cc (Gm gl n)):Aa cc (Gm gl n):=⟨B.O,B.LO,V,B.MO,B.T⟩
def bh.plain(B:bh cc gl)(V:az cc (Gm gl n))(F:lV (KP cc.w.params) a xs ps ir)
  (hb:∀vals:List Vq,vals.length=args.length->V5 (aS (KP cc.w.params) a) ⟨vals,[]⟩=pure (xs.zip vals))(hk:1<=k)
  (vc:aj (Gm gl n) (fun _=>[]) [] (k-1) hn ir (ps.zip args) H (rQ Q) (fun _=>E)):aH cc k hn (.ref a) args H ad hd Q E:=
 pQ (ct:=fun _=>[]) (B.good V) (B.K▸F) (extra:=[]) (exv:=[]) .nil (fun s vals _ hl=>Yb (by rw[B.K,VW];exact hb vals hl)) hk (by rw[VW];exact vc)
def Ec(P:VC):V5 (aS (KP P) 70) ⟨[a],[]⟩=pure [(Vg "c",a)]:=by kernel_rfl
def BN(B:bh cc gl)(V:az cc (Gm gl n))(h:tP k hn args H Q E)(hk:k<=n+1):aH cc k hn (.ref 70) args H ad hd Q E:=by
 have l:1<=k/\args.length=1:=by obtain⟨c,rfl,h1,q⟩:=h;exact⟨by exact bS h1,rfl⟩
 refine B.plain V (Qd _) (fun vals hl=>?_) l.1 (DC h hk);refine cX vals (nO (hl.trans l.2)) fun a=>?_;exact Ec _
def Ed(P:VC):V5 (aS (KP P) 77) ⟨[a],[]⟩=pure [(Vg "c",a)]:=by kernel_rfl
def BS(B:bh cc gl)(V:az cc (Gm gl n))(h:tU k hn args H Q E)(hk:k<=n+1):aH cc k hn (.ref 77) args H ad hd Q E:=by
 have l:1<=k/\args.length=1:=by obtain⟨c,rfl,h1,q⟩:=h;exact⟨by exact bS h1,rfl⟩
 refine B.plain V (Qe _) (fun vals hl=>?_) l.1 (DJ h hk);refine cX vals (nO (hl.trans l.2)) fun a=>?_;exact Ed _
def Ee(P:VC):V5 (aS (KP P) 84) ⟨[a],[]⟩=pure [(Vg "c",a)]:=by kernel_rfl
def BG(B:bh cc gl)(V:az cc (Gm gl n))(h:tF k hn args H Q E)(hk:k<=n+1):aH cc k hn (.ref 84) args H ad hd Q E:=by
 have l:1<=k/\args.length=1:=by obtain⟨c,rfl,h1,q⟩:=h;exact⟨by exact GI h1,rfl⟩
 refine B.plain V (Qg _) (fun vals hl=>?_) l.1 (Dt h hk);refine cX vals (nO (hl.trans l.2)) fun a=>?_;exact Ee _
def Ef(P:VC):V5 (aS (KP P) 91) ⟨[a],[]⟩=pure [(Vg "c",a)]:=by kernel_rfl
def BJ(B:bh cc gl)(V:az cc (Gm gl n))(h:tJ k hn args H Q E)(hk:k<=n+1):aH cc k hn (.ref 91) args H ad hd Q E:=by
 have l:1<=k/\args.length=1:=by obtain⟨c,rfl,h1,q⟩:=h;exact⟨by exact bS h1,rfl⟩
 refine B.plain V (Qh _) (fun vals hl=>?_) l.1 (Dw h hk);refine cX vals (nO (hl.trans l.2)) fun a=>?_;exact Ef _
def AM(P:VC):V5 (aS (KP P) 126) ⟨[a,b],[]⟩=pure [(Vg "c",a),(Vg "letter",b)]:=by kernel_rfl
def BH(B:bh cc gl)(V:az cc (Gm gl n))(h:tH k hn args H Q E)(hk:k<=n+1):aH cc k hn (.ref 126) args H ad hd Q E:=by
 have l:1<=k/\args.length=2:=by obtain⟨c,l,rfl,hl,h1,q⟩:=h;exact⟨by exact GJ h1,rfl⟩
 refine B.plain V (I7 _) (fun vals hl=>?_) l.1 (Du h hk);refine uf vals (qy (hl.trans l.2)) fun a b=>?_;exact AM _
def AN(P:VC):V5 (aS (KP P) 148) ⟨[a],[]⟩=pure [(Vg "self",a)]:=by kernel_rfl
def BI(B:bh cc gl)(V:az cc (Gm gl n))(h:tI k hn args H Q E)(hk:k<=n+1):aH cc k hn (.ref 148) args H ad hd Q E:=by
 have l:1<=k/\args.length=1:=by obtain⟨m,d,T,P,dep,lev,ls,ll,rfl,M,h1,q⟩:=h;exact⟨by exact bS h1,rfl⟩
 refine B.plain V (I9 _) (fun vals hl=>?_) l.1 (Dv h hk);refine cX vals (nO (hl.trans l.2)) fun a=>?_;exact AN _
def AP(P:VC):V5 (aS (KP P) 155) ⟨[a],[]⟩=pure [(Vg "self",a)]:=by kernel_rfl
def BP(B:bh cc gl)(V:az cc (Gm gl n))(h:tR k hn args H Q E)(hk:k<=n+1):aH cc k hn (.ref 155) args H ad hd Q E:=by
 have l:1<=k/\args.length=1:=by obtain⟨m,d,T,P,dep,lev,ls,ll,rfl,M,h1,q⟩:=h;exact⟨by exact bS h1,rfl⟩
 refine B.plain V (I_ _) (fun vals hl=>?_) l.1 (DG h hk);refine cX vals (nO (hl.trans l.2)) fun a=>?_;exact AP _
def AQ(P:VC):V5 (aS (KP P) 162) ⟨[a,b],[]⟩=pure [(Vg "self",a),(Vg "p",b)]:=by kernel_rfl
def PY(B:bh cc gl)(V:az cc (Gm gl n))(h:RH k hn args H Q E)(hk:k<=n+1):aH cc k hn (.ref 162) args H ad hd Q E:=by
 have l:1<=k/\args.length=2:=by obtain⟨m,d,p,T,P,dep,lev,ls,ll,rfl,M,h1,q⟩:=h;exact⟨by exact bS h1,rfl⟩
 refine B.plain V (I' _) (fun vals hl=>?_) l.1 (J7 h hk);refine uf vals (qy (hl.trans l.2)) fun a b=>?_;exact AQ _
def AR(P:VC):V5 (aS (KP P) 169) ⟨[a,b],[]⟩=pure [(Vg "self",a),(Vg "p",b)]:=by kernel_rfl
def uJ(B:bh cc gl)(V:az cc (Gm gl n))(h:ko k hn args H Q E)(hk:k<=n+1):aH cc k hn (.ref 169) args H ad hd Q E:=by
 have l:1<=k/\args.length=2:=by obtain⟨m,d,p,T,P,dep,lev,ls,ll,rfl,M,h1,q⟩:=h;exact⟨by exact kJ h1,rfl⟩
 refine B.plain V (Ja _) (fun vals hl=>?_) l.1 (vR h hk);refine uf vals (qy (hl.trans l.2)) fun a b=>?_;exact AR _
def AS(P:VC):V5 (aS (KP P) 176) ⟨[a,b,c,d],[]⟩=pure [(Vg "self",a),(Vg "c",b),(Vg "p",c),(Vg "last",d)]:=by kernel_rfl
def BL(B:bh cc gl)(V:az cc (Gm gl n))(h:tL k hn args H Q E)(hk:k<=n+1):aH cc k hn (.ref 176) args H ad hd Q E:=by
 have l:1<=k/\args.length=4:=by obtain⟨m,d,c,p,last,T,P,dep,lev,ls,ll,rfl,M,hP,hlast,h1,q⟩:=h;exact⟨by exact GK h1,rfl⟩
 refine B.plain V (Jb _) (fun vals hl=>?_) l.1 (Dy h hk);refine z9 vals (rh (hl.trans l.2)) fun a b c d=>?_;exact AS _
def AU(P:VC):V5 (aS (KP P) 183) ⟨[a,b,c,d],[]⟩=pure [(Vg "self",a),(Vg "s",b),(Vg "p",c),(Vg "end",d)]:=by kernel_rfl
def y_(B:bh cc gl)(V:az cc (Gm gl n))(h:pq k hn args H Q E)(hk:k<=n+1):aH cc k hn (.ref 183) args H ad hd Q E:=by
 have l:1<=k/\args.length=4:=by obtain⟨m,d,s,p,e,T,P,dep,lev,ls,ll,rfl,M,hP,hp,h37,e1,e2,h1,q⟩:=h;exact⟨by exact kJ h1,rfl⟩
 refine B.plain V (Jc _) (fun vals hl=>?_) l.1 (z6 h hk);refine z9 vals (rh (hl.trans l.2)) fun a b c d=>?_;exact AU _
def AW(P:VC):V5 (aS (KP P) 190) ⟨[a,b,c],[]⟩=pure [(Vg "self",a),(Vg "s",b),(Vg "p",c)]:=by kernel_rfl
def BO(B:bh cc gl)(V:az cc (Gm gl n))(h:tQ k hn args H Q E)(hk:k<=n+1):aH cc k hn (.ref 190) args H ad hd Q E:=by
 have l:1<=k/\args.length=3:=by obtain⟨m,d,s,p,T,P,dp,ls,ll,cs,f,rfl,M,hP,hp,hf,hd,h1,q⟩:=h;exact⟨by exact GM h1,rfl⟩
 refine B.plain V (Jd _) (fun vals hl=>?_) l.1 (DF h hk);refine Kg vals (zu (hl.trans l.2)) fun a b c=>?_;exact AW _
def AX(P:VC):V5 (aS (KP P) 197) ⟨[a,b,c],[]⟩=pure [(Vg "self",a),(Vg "s",b),(Vg "p",c)]:=by kernel_rfl
def Ep(B:bh cc gl)(V:az cc (Gm gl n))(h:yv k hn args H Q E)(hk:k<=n+1):aH cc k hn (.ref 197) args H ad hd Q E:=by
 have l:1<=k/\args.length=3:=by obtain⟨m,d,s,p,T,P,dp,ls,ll,cs,f,rfl,M,hP,hp,hf,hd,h1,q⟩:=h;exact⟨by exact GN h1,rfl⟩
 refine B.plain V (Je _) (fun vals hl=>?_) l.1 (FJ h hk);refine Kg vals (zu (hl.trans l.2)) fun a b c=>?_;exact AX _
def AY(P:VC):V5 (aS (KP P) 204) ⟨[a,b,c,d],[]⟩=pure [(Vg "self",a),(Vg "s",b),(Vg "p",c),(Vg "letter",d)]:=by kernel_rfl
def wi(B:bh cc gl)(V:az cc (Gm gl n))(h:mW k hn args H Q E)(hk:k<=n+1):aH cc k hn (.ref 204) args H ad hd Q E:=by
 have l:1<=k/\args.length=4:=by obtain⟨m,d,s,p,T,P,dep,lev,ls,ll,rfl,M,h1,q⟩:=h;exact⟨by exact xG h1,rfl⟩
 refine B.plain V (Jf _) (fun vals hl=>?_) l.1 (xk h hk);refine z9 vals (rh (hl.trans l.2)) fun a b c d=>?_;exact AY _
def AZ(P:VC):V5 (aS (KP P) 211) ⟨[a,b,c],[]⟩=pure [(Vg "self",a),(Vg "s",b),(Vg "p",c)]:=by kernel_rfl
def ID(B:bh cc gl)(V:az cc (Gm gl n))(h:Fj k hn args H Q E)(hk:k<=n+1):aH cc k hn (.ref 211) args H ad hd Q E:=by
 have l:1<=k/\args.length=3:=by obtain⟨m,d,s,p,T,P,dep,lev,ls,ll,rfl,M,h1,q⟩:=h;exact⟨by exact kJ h1,rfl⟩
 refine B.plain V (Jg _) (fun vals hl=>?_) l.1 (J8 h hk);refine Kg vals (zu (hl.trans l.2)) fun a b c=>?_;exact AZ _
def A9(P:VC):V5 (aS (KP P) 225) ⟨[a,b,c,d],[]⟩=pure [(Vg "self",a),(Vg "s",b),(Vg "p",c),(Vg "end",d)]:=by kernel_rfl
def Ew(B:bh cc gl)(V:az cc (Gm gl n))(h:yB k hn args H Q E)(hk:k<=n+1):aH cc k hn (.ref 225) args H ad hd Q E:=by
 have l:1<=k/\args.length=4:=by obtain⟨m,d,s,p,e,T,P,dp,ls,ll,cs,f,rfl,M,hP,hp,h37,he1,he2,hf,hd,h1,q⟩:=h;exact⟨by exact oa h1,rfl⟩
 refine B.plain V (Jh _) (fun vals hl=>?_) l.1 (FN h hk);refine z9 vals (rh (hl.trans l.2)) fun a b c d=>?_;exact A9 _
def A_(P:VC):V5 (aS (KP P) 232) ⟨[a,b,c,d],[]⟩=pure [(Vg "self",a),(Vg "s",b),(Vg "p",c),(Vg "end",d)]:=by kernel_rfl
def BM(B:bh cc gl)(V:az cc (Gm gl n))(h:tO k hn args H Q E)(hk:k<=n+1):aH cc k hn (.ref 232) args H ad hd Q E:=by
 have l:1<=k/\args.length=4:=by obtain⟨m,d,s,p,e,T,P,dp,ls,ll,cs,f,rfl,M,hP,hp,h37,he1,he2,hf,hd,h1,q⟩:=h;exact⟨by exact oa h1,rfl⟩
 refine B.plain V (Ji _) (fun vals hl=>?_) l.1 (Dz h hk);refine z9 vals (rh (hl.trans l.2)) fun a b c d=>?_;exact A_ _
def Ba(P:VC):V5 (aS (KP P) 239) ⟨[a,b,c,d],[]⟩=pure [(Vg "self",a),(Vg "s",b),(Vg "p",c),(Vg "kind",d)]:=by kernel_rfl
def BR(B:bh cc gl)(V:az cc (Gm gl n))(h:tT k hn args H Q E)(hk:k<=n+1):aH cc k hn (.ref 239) args H ad hd Q E:=by
 have l:1<=k/\args.length=4:=by obtain⟨m,d,s,p,kind,T,P,dp,ls,ll,cs,f,rfl,M,hP,hp,hf,hd,h1,q⟩:=h;exact⟨by exact oa h1,rfl⟩
 refine B.plain V (Jj _) (fun vals hl=>?_) l.1 (DI h hk);refine z9 vals (rh (hl.trans l.2)) fun a b c d=>?_;exact Ba _
def Bb(P:VC):V5 (aS (KP P) 246) ⟨[a,b,c],[]⟩=pure [(Vg "self",a),(Vg "s",b),(Vg "p",c)]:=by kernel_rfl
def IF(B:bh cc gl)(V:az cc (Gm gl n))(h:Fl k hn args H Q E)(hk:k<=n+1):aH cc k hn (.ref 246) args H ad hd Q E:=by
 have l:1<=k/\args.length=3:=by obtain⟨m,d,s,p,T,P,dp,ls,ll,cs,f,rfl,M,hP,hp,hf,hd,h1,q⟩:=h;exact⟨by exact oa h1,rfl⟩
 refine B.plain V (Jk _) (fun vals hl=>?_) l.1 (J9 h hk);refine Kg vals (zu (hl.trans l.2)) fun a b c=>?_;exact Bb _
def Bc(P:VC):V5 (aS (KP P) 253) ⟨[a],[]⟩=pure [(Vg "self",a)]:=by kernel_rfl
def wj(B:bh cc gl)(V:az cc (Gm gl n))(h:mX k hn args H Q E)(hk:k<=n+1):aH cc k hn (.ref 253) args H ad hd Q E:=by
 have l:1<=k/\args.length=1:=by obtain⟨m,d,T,P,dep,ls,ll,cs,rfl,M,h1,q⟩:=h;exact⟨by exact kJ h1,rfl⟩
 refine B.plain V (Jl _) (fun vals hl=>?_) l.1 (xl h hk);refine cX vals (nO (hl.trans l.2)) fun a=>?_;exact Bc _
def Bd(P:VC):V5 (aS (KP P) 267) ⟨[a,b,c,d],[]⟩=pure [(Vg "self",a),(Vg "number",b),(Vg "s",c),(Vg "end",d)]:=by kernel_rfl
def wh(B:bh cc gl)(V:az cc (Gm gl n))(h:mV k hn args H Q E)(hk:k<=n+1):aH cc k hn (.ref 267) args H ad hd Q E:=by
 have l:1<=k/\args.length=4:=by obtain⟨m,d,nn,s,e,T,P,dep,ls,ll,cs,rfl,M,hcs,h1,q⟩:=h;exact⟨by exact kJ h1,rfl⟩
 refine B.plain V (Jm _) (fun vals hl=>?_) l.1 (xj h hk);refine z9 vals (rh (hl.trans l.2)) fun a b c d=>?_;exact Bd _
def D_(P:VC):V5 (aS (KP P) 28) ⟨[a],[]⟩=pure [(Vg "value",a)]:=by kernel_rfl
def Ey(B:bh cc gl)(V:az cc (Gm gl n))(h:yC k hn args H Q E)(hk:k<=n+1):aH cc k hn (.ref 28) args H ad hd Q E:=by
 have l:1<=k/\args.length=1:=by obtain⟨b,rfl,h1,q⟩:=h;exact⟨by exact bS h1,rfl⟩
 refine B.plain V (Qb _) (fun vals hl=>?_) l.1 (FP h hk);refine cX vals (nO (hl.trans l.2)) fun a=>?_;exact D_ _
def Bf(P:VC):V5 (aS (KP P) 293) ⟨[a,b,c,d],[]⟩=pure [(Vg "size",a),(Vg "begin",b),(Vg "is_bound",c),(Vg "ends_at",d)]:=by kernel_rfl
def BK(B:bh cc gl)(V:az cc (Gm gl n))(h:tK k hn args H Q E)(hk:k<=n+1):aH cc k hn (.ref 293) args H ad hd Q E:=by
 have l:1<=k/\args.length=4:=by obtain⟨m,d,b,cm,ea,T,P,dep,lev,ls,ll,rfl,M,hP,hcm,hea,h1,q⟩:=h;exact⟨by exact Ar h1,rfl⟩
 refine B.plain V (Jn _) (fun vals hl=>?_) l.1 (Dx h hk);refine z9 vals (rh (hl.trans l.2)) fun a b c d=>?_;exact Bf _
def Bg(P:VC):V5 (aS (KP P) 300) ⟨[a,b],[]⟩=pure [(Vg "begin",a),(Vg "end",b)]:=by kernel_rfl
def yZ(B:bh cc gl)(V:az cc (Gm gl n))(h:pn k hn args H Q E)(hk:k<=n+1):aH cc k hn (.ref 300) args H ad hd Q E:=by
 have l:1<=k/\args.length=2:=by obtain⟨b,e,rfl,h1,q⟩:=h;exact⟨by exact bS h1,rfl⟩
 refine B.plain V (Jo _) (fun vals hl=>?_) l.1 (z5 h hk);refine uf vals (qy (hl.trans l.2)) fun a b=>?_;exact Bg _
def Bh(P:VC):V5 (aS (KP P) 308) ⟨[a,b],[]⟩=pure [(Vg "bag",a),(Vg "many",b)]:=by kernel_rfl
def Ez(B:bh cc gl)(V:az cc (Gm gl n))(h:yD k hn args H Q E)(hk:k<=n+1):aH cc k hn (.ref 308) args H ad hd Q E:=by
 have l:1<=k/\args.length=2:=by obtain⟨bag,sl,a,many,xs,rfl,hb,hsl,hx,ha,hm,h1,q⟩:=h;exact⟨by exact bS h1,rfl⟩
 refine B.plain V (Jp _) (fun vals hl=>?_) l.1 (FQ h hk);refine uf vals (qy (hl.trans l.2)) fun a b=>?_;exact Bh _
def Bl(P:VC):V5 (aS (KP P) 336) ⟨[a,b],[]⟩=pure [(Vg "text",a),(Vg "pattern",b)]:=by kernel_rfl
def BQ(B:bh cc gl)(V:az cc (Gm gl n))(h:tS k hn args H Q E)(hk:k<=n+1):aH cc k hn (.ref 336) args H ad hd Q E:=by
 have l:1<=k/\args.length=2:=by obtain⟨T,P,rfl,hP,hT,rfl,h1,q⟩:=h;exact⟨by exact rk h1,rfl⟩
 refine B.plain V (Jq _) (fun vals hl=>?_) l.1 (DH h hk);refine uf vals (qy (hl.trans l.2)) fun a b=>?_;exact Bl _
def Bm(P:VC):V5 (aS (KP P) 343) ⟨[a,b],[]⟩=pure [(Vg "text",a),(Vg "spans",b)]:=by kernel_rfl
def Et(B:bh cc gl)(V:az cc (Gm gl n))(h:yz k hn args H Q E)(hk:k<=n+1):aH cc k hn (.ref 343) args H ad hd Q E:=by
 have l:1<=k/\args.length=2:=by obtain⟨l,T,sp,rfl,ht,hsp,hT,rfl,h1,q⟩:=h;exact⟨by exact bS h1,rfl⟩
 refine B.plain V (Jr _) (fun vals hl=>?_) l.1 (FL h hk);refine uf vals (qy (hl.trans l.2)) fun a b=>?_;exact Bm _
end
section
variable{cc:CC}{gl:GL}{n k:Nat}{H:AH}{ad:List Addr}{hd:Hid}{hn:Bool}{Q:QE}{E:AH->Prop}{args:List AV}{fr:List (Addr×Obj)}{s:Vo}{ct:CT}
def sT(P:VC):(aS (KP P) 141).defaults=.ref 134:=by kernel_rfl
def Qo(P:VC):(KP P).lookup 134=some {cls:=.type "tuple",data:=.seq #[.int 60 381,.none]}:=by kernel_rfl
def yS(P:VC)(X:(KP P).In s.heap):Xp s (aS (KP P) 141) ⟨[a,b,c],[]⟩ [(Vg "self",a),(Vg "text",b),(Vg "pattern",c),(Vg "depth",.int 60 381),(Vg "tick",.none)]:=by
 refine BindsTo.of_defaults (sT P) (X _ _ (Qo P)) rfl (h₁:=?_) (k:=?_) ?_
 rotate_left
 ·exact rfl
 ·kernel_rfl
def Es(B:bh cc gl)(V:az cc (Gm gl n))(h:yw k hn args H Q E)(hk:k<=n+1):aH cc k hn (.ref 141) args H ad hd Q E:=by
 have l:1<=k/\args.length=3:=by obtain⟨m,d,T,P,rfl,hi,hd,hT,hP,h1,q⟩:=h;exact⟨by exact bS h1,rfl⟩
 refine pQ (ct:=fun _=>[]) (B.good V) (B.K▸I8 _) (extra:=[.int 60,.none]) (exv:=[.int 60 381,.none]) (.cons ⟨_,rfl⟩ (.cons rfl .nil)) (fun s vals X hl=>?_) l.1 (FK h hk);refine Kg vals (zu (hl.trans l.2)) fun a b c=>?_;rw[B.K]at X⊢;exact yS _ X
end
section
variable{cc:CC}{gl:GL}{n k:Nat}{H:AH}{ad:List Addr}{hd:Hid}{hn:Bool}{Q:QE}{E:AH->Prop}{args:List AV}{fr:List (Addr×Obj)}{s:Vo}{ct:CT}{Γ:cM}{h:Heap}
set_option tactic.hygienic true in
def HR.codeRec(R:HR cc fr hd ad H h):∀{d:Nat} {c':Addr},hd.code d=some c'->h.CodeRec (.ref c') (cc.cdat d).qual
 |0,c',e=>by
  obtain⟨⟨a,o⟩,e1,e2⟩:=VK.mp (show hd.e.map (·.1)=some c' from e);subst e2;refine o2 (R.hok.e _ _ e1) fun vs t h1 h2=>?_;exact⟨_,o,vs,t,rfl,R.hid (_,o) (by unfold Hid.objs;simp[e1]),h1,h2⟩
 |1,c',e=>by
  obtain⟨⟨a,o,P,x⟩,e1,e2⟩:=VK.mp (show hd.g.map (·.1)=some c' from e);subst e2;refine o2 ((R.hok.g _ _ _ _ e1).1) fun vs t h1 h2=>?_;exact⟨_,o,vs,t,rfl,R.hid (_,o) (by unfold Hid.objs;simp[e1]),h1,h2⟩
 |2,c',e=>by
  have e:(match hd.g with|some (_,_,_,some (a,_))=>some a|_=>none)=some c':=e;induction hg:hd.g using Option.casesOn with
  |none=>rw[hg]at e;injection e
  |some y=>
   obtain⟨a1,o1,P1,x⟩:=y;rw[hg]at e;induction x using Option.casesOn with
   |none=>injection e
   |some x=>
    obtain⟨b,ob⟩:=x;cases e;refine o2 (R.hok.h _ _ _ _ _ hg) fun vs t h1 h2=>?_;exact⟨_,ob,vs,t,rfl,R.hid (_,ob) (by unfold Hid.objs;simp[hg]),h1,h2⟩
 |_+3,c',e=>by injection e
def Ae{α β:Type}{R:α->β->Prop}{l:List α}{m:List β}(h:aw R l m):aw R l.reverse m.reverse:=by
 induction h with
 |nil=>exact .nil
 |cons x t ih=>rw[Wv,Wv];exact ih.append (.cons x .nil)
def oh{free:List Str}{cl:List Nat}(hn:free.Nodup)(h:aw (fun i a=>ad[i]?=some a) cl ads)(hl:free.length=cl.length){j:Nat}(e:free.reverse[j]?=some x):
  ∃a i,(free.zip ads).lookup x=some a/\cl.reverse[j]?=some i/\ad[i]?=some a:=by
 have hj:=(Vn.mp e).1;have hj:j<free.length:=by simpa using hj
 have h3:=h.length;have hc:j<cl.reverse.length:=by simpa using(hl▸hj)
 refine o1 ((Ae h).get (Vw hc)) fun a h1 h2=>?_;refine i1 a (cl.reverse[j]) ?_ (Vw hc) h2;have z:(free.zip ads).reverse[j]?=some (x,a):=by
  rw[←pA (MB hl h3),List.getElem?_zip_eq_some];exact⟨e,h1⟩
 refine fX (List.Nodup.sublist ?_ hn) (List.mem_reverse.mp (VP z));have:∀(xs:List Str) (us:List Addr),((xs.zip us).map (·.1)).Sublist xs:=fun xs=>by
  induction xs with
  |nil=>intro us;rw[YQ];exact Yp _
  |cons x xs ih=>
   intro us;induction us using Vr with
   |nil=>rw[W7];exact List.nil_sublist _
   |cons u us=>rw[WN,VL];exact(ih us).cons_cons x
 exact this free ads
structure RQ(D:z_)(xs:List Str)(ps:List Nat)(ir:IS):Prop where
 cell:qD D.scope.names=true
 loc:xs.map (fun x=>D.scope.names.lookup x)=xs.map (fun _=>some .local)
 nm:ps.map (bC.nm[·]?)=xs.map some
 nod:xs.Nodup
 free:D.free.Nodup
 ir:compSs bC D.free.reverse 200 D.scope D.body=ir
 co:D.scope.isCoroutine=false
 gen:D.scope.isGenerator=false
 kind:D.scope.kind=.function
def rA(G:Aa cc Γ){d i:Nat}{a:Addr}(hi:H[i]?=some (.clos d cl))(ha:ad[i]?=some a){xs:List Str}(F:RQ (cc.cdat d) xs ps ir)
  (hbind:∀(vals:List Vq)(clo:List (Str×Addr))(doc pm cdv ctv:Vq),vals.length=args.length->V5 (fnX (cc.cdat d).name (cc.cdat d).qual (cc.cdat d).params (cc.cdat d).body (cc.cdat d).scope clo .none .none doc pm none cdv ctv) ⟨vals,[]⟩=pure (xs.zip vals))(hk:1<=k)
  (vc:aj Γ ct cl.reverse (k-1) hn ir (ps.zip args) H (lR Q) (fun _=>E)):aH cc k hn (.ref a) args H ad hd Q E:=by
 intro hd0 A fr s vals R C hr q e;refine Uw (C.hr.obj i _ hi) fun a' o h1 h2 ads c' doc pm ctv h3 h4 h5 h6=>?_;rw[ha]at h1;(injection h1 with h1;subst h1);subst h6;refine oj G.O C hk h2 rfl (C.hr.codeRec h3) rfl rfl rfl (Yb (hbind vals _ _ _ _ _ hr.length.symm)) (fE F.cell) (fun x hx=>fY F.loc _ (j9 hx)) (loc0:=ps.zip args) (D:=fun k'=>aj Γ ct cl.reverse k' hn ir) (cn:=(cc.cdat d).free.reverse) (cl:=cl.reverse)
  (by rw[G.T];exact lL F.nm F.nod hr) (fun j x e _=>oh F.free h4 h5 e) (fZ F.cell) (fun L ao tp=>?_) vc ⟨q,e⟩ F.co F.gen F.kind
 have:=(lM (ct:=ct) (mv cc) G.O G.LO G.V G.MO 200).ss ⟨_,(cc.cdat d).free.reverse,cl.reverse,fr,hn,hd0⟩ _ (k-1) (cc.cdat d).scope (cc.cdat d).body ao ⟨F.kind,rfl,rfl⟩ tp (aN.refl _);rw[G.T,F.ir]at this;exact this
def S9(P:VC):RQ (aU (KP P) 0) [Vg "place"] [43] cQ where
 cell:=by kernel_rfl
 loc:=by kernel_rfl
 nm:=by kernel_rfl
 nod:=by decide+kernel
 free:=by show [Vg "matcher"].Nodup;decide+kernel
 ir:=by kernel_rfl
 co:=by kernel_rfl
 gen:=by kernel_rfl
 kind:=by kernel_rfl
def S_(P:VC):RQ (aU (KP P) 2) [Vg "number"] [27] bF where
 cell:=by kernel_rfl
 loc:=by kernel_rfl
 nm:=by kernel_rfl
 nod:=by decide+kernel
 free:=by show [Vg "matcher",Vg "end",Vg "begin"].Nodup;decide+kernel
 ir:=by kernel_rfl
 co:=by kernel_rfl
 gen:=by kernel_rfl
 kind:=by kernel_rfl
def SI(P:VC):V5 (fnX (aU (KP P) 0).name (aU (KP P) 0).qual (aU (KP P) 0).params (aU (KP P) 0).body (aU (KP P) 0).scope clo .none .none doc pm none cdv ctv) ⟨[a],[]⟩=pure [(Vg "place",a)]:=by kernel_rfl
def SJ(P:VC):V5 (fnX (aU (KP P) 2).name (aU (KP P) 2).qual (aU (KP P) 2).params (aU (KP P) 2).body (aU (KP P) 2).scope clo .none .none doc pm none cdv ctv) ⟨[a],[]⟩=pure [(Vg "number",a)]:=by kernel_rfl
def bh.cdP(B:bh cc gl):cc.cdat=aU (KP cc.w.params):=by rw[B.cd,B.K]
def Em(B:bh cc gl)(V:az cc (Gm gl n)){i:Nat}(hi:H[i]?=some (.clos 0 cl))(ha:ad[i]?=some a)(h:yr cl k hn args H Q E)(hk:k<=n+1):aH cc k hn (.ref a) args H ad hd Q E:=by
 have l:(1<=k/\args.length=1)/\cl.reverse=cl:=by obtain⟨m,d,b,cm,T,P,dep,lev,ls,ll,rfl,rfl,M,hP,hm,h1,q⟩:=h;exact⟨⟨by exact MC h1,rfl⟩,rfl⟩
 refine rA (ct:=fun _=>[]) (B.good V) hi ha (B.cdP▸S9 _) (fun vals clo doc pm cdv ctv hl=>?_) l.1.1 (by rw[l.2];exact FG h hk);refine cX vals (nO (hl.trans l.1.2)) fun a=>?_;rw[B.cdP];exact SI _
def Eo(B:bh cc gl)(V:az cc (Gm gl n)){i:Nat}(hi:H[i]?=some (.clos 2 cl))(ha:ad[i]?=some a)(h:yu cl k hn args H Q E)(hk:k<=n+1):aH cc k hn (.ref a) args H ad hd Q E:=by
 have l:1<=k/\args.length=1:=by obtain⟨m,d,b,e,nn,cb,ce,cm,T,P,dp,ls,ll,cs,rfl,rfl,M,hcs,hb,he,hm,h1,q⟩:=h;exact⟨by exact ME h1,rfl⟩
 refine rA (ct:=fun _=>[]) (B.good V) hi ha (B.cdP▸S_ _) (fun vals clo doc pm cdv ctv hl=>?_) l.1 (FI h hk);refine cX vals (nO (hl.trans l.2)) fun a=>?_;rw[B.cdP];exact SJ _
end
section
variable{cc:CC}{c:FC}{A:VN}{gl:GL}{n k:Nat}{H:AH}{ad:List Addr}{hd:Hid}{hn:Bool}{Q:QE}{E:AH->Prop}{args:List AV}{fr:List (Addr×Obj)}{s:Vo}{ct:CT}{Γ:cM}{h:Heap}
structure J'(K:Frag)(a:Addr)(own xs:List Str)(ps:List PK):Prop where
 obj:K.lookup a=some {cls:=.type "function",data:=.func (aS K a)}
 code:pU K (aS K a).code (aS K a).qualname=true
 body:(aS K a).body=.stmts (aW (aS K a).body)
 g:(aS K a).globals=mainGlobals
 b:(aS K a).builtins=W4
 ow:ak (aS K a).scope.names=own
 nod:own.Nodup
 pk:aw (fun p x=>match p with
  |.l i=>bC.nm[i]?=some x/\(aS K a).scope.names.lookup x=some .local
  |.c j=>own[j]?=some x/\(aS K a).scope.names.lookup x=some .cell) ps xs
 pc:∀j,PK.c j∈ps->j<own.length
 co:(aS K a).scope.isCoroutine=false
 gen:(aS K a).scope.isGenerator=false
 kind:(aS K a).scope.kind=.function
def lp(G:Aa cc Γ){a:Addr}{own xs:List Str}{ps:List PK}(F:J' cc.K a own xs ps){D:Nat->sx}
  (hbind:∀vals:List Vq,vals.length=args.length->V5 (aS cc.K a) ⟨vals,[]⟩=pure (xs.zip vals))(hk:1<=k)
  (hs:∀(L:Addr)(A:VN)(fr:List (Addr×Obj))(hd0:Option Addr),bx ⟨envC (aS cc.K a) L a,own,(VE own.length).map (H.length+·),fr,hn,hd0⟩ A (k-1)->ay ⟨envC (aS cc.K a) L a,own,(VE own.length).map (H.length+·),fr,hn,hd0⟩->
   aR ⟨envC (aS cc.K a) L a,own,(VE own.length).map (H.length+·),fr,hn,hd0⟩ A->
   bc cc ⟨envC (aS cc.K a) L a,own,(VE own.length).map (H.length+·),fr,hn,hd0⟩ A (Wt (aW (aS cc.K a).body) (envC (aS cc.K a) L a)) (D (k-1)))
  (d:cU H.length ps args [] (H++VJ own.length (.cell none)) (fun loc H'=>bB H H'->D (k-1) loc H' (lR Q) (fun _=>E))):aH cc k hn (.ref a) args H ad hd Q E:=by
 intro hd0 A fr s vals R C hr q e;have K1:cc.K.In s.heap:=G.O.inG.keeps C.hr.keep;have ow:=F.ow;subst ow;refine uS G.O C hk (K1 _ _ F.obj) rfl (eM K1 F.code) F.body F.g F.b (Yb (hbind vals hr.length.symm)) F.nod (fun L=>?_) F.pc hr (fn:=[]) (cl0:=[]) (fun j x e=>by injection e) (fun L=>?_) d ⟨q,e⟩ F.co F.gen F.kind
 ·refine F.pk.mono fun p x hp=>?_;induction p using PK.casesOn with
  |l i=>exact⟨by rw[G.T];exact hp.1,hp.2⟩
  |c j=>
   refine uX hp.2 j ?_ ?_
   ·rw[VW];exact hp.1
   ·have:=(Vn.mp hp.1).1;simp[this]
 ·rw[VW,VW];intro ao tp;exact hs L _ fr hd0 ao ⟨F.kind,F.g,F.b⟩ tp
def IZ(P:VC):J' (KP P) 272 [Vg "self",Vg "s",Vg "end"] [Vg "self",Vg "s",Vg "end",Vg "is_whole"] [.c 0,.c 1,.c 2,.l 31]where
 obj:=by kernel_rfl
 code:=by kernel_rfl
 body:=by kernel_rfl
 g:=by kernel_rfl
 b:=by kernel_rfl
 ow:=by kernel_rfl
 nod:=by decide+kernel
 pk:=.cons ⟨rfl,by kernel_rfl⟩ (.cons ⟨rfl,by kernel_rfl⟩ (.cons ⟨rfl,by kernel_rfl⟩ (.cons ⟨rfl,by kernel_rfl⟩ .nil)))
 pc:=fun j hj=>by simp at hj;simp;exact MF hj
 co:=by kernel_rfl
 gen:=by kernel_rfl
 kind:=by kernel_rfl
def JE(P:VC):compSs bC [Vg "self",Vg "s",Vg "end"] 200 (aS (KP P) 272).scope (aW (aS (KP P) 272).body)=dY:=by kernel_rfl
def Be(P:VC){a b c d:Vq}:V5 (aS (KP P) 272) ⟨[a,b,c,d],[]⟩=pure [(Vg "self",a),(Vg "s",b),(Vg "end",c),(Vg "is_whole",d)]:=by kernel_rfl
def uI(B:bh cc gl)(V:az cc (Gm gl n))(h:km k hn args H Q E)(hk:k<=n+1):aH cc k hn (.ref 272) args H ad hd Q E:=by
 have l:1<=k/\args.length=4:=by obtain⟨m,d,s,e,T,P,dp,ls,ll,cs,rfl,M,hcs,h1,rfl,hl40,q⟩:=h;exact⟨by exact xG h1,rfl⟩
 have G:=B.good V;refine lp G (B.K▸IZ _) (D:=fun k'=>aj (Gm gl n) (fun _=>[]) [H.length+0,H.length+1,H.length+2] k' hn dY) (fun vals hl=>?_) l.1 (fun L A fr hd0 ao eo tp=>?_) (vQ h hk)
 ·refine z9 vals (rh (hl.trans l.2)) fun a b c d=>?_;rw[B.K];exact Be _
 ·have e0:(VE [Vg "self",Vg "s",Vg "end"].length).map (H.length+·)=[H.length+0,H.length+1,H.length+2]:=rfl;rw[e0]at ao eo tp⊢;have:=(lM (ct:=fun _=>[]) (mv cc) G.O G.LO G.V G.MO 200).ss _ _ (k-1) (aS cc.K 272).scope (aW (aS cc.K 272).body) ao eo tp (aN.refl _);have e1:compSs cc.T [Vg "self",Vg "s",Vg "end"] 200 (aS cc.K 272).scope (aW (aS cc.K 272).body)=dY:=by rw[G.T,B.K];exact JE _
  rw[e1]at this;exact this
def vB(O:aO cc)(DO:ri cc)(eo:ay c)(DS:pB cc c (ct d) d)(hcode:c.env.code=.ref cE)(C:codeHdIn cc.K cE P=true)(t:∀hd:Hid,pF cc hd cE P d)
  (hx:cc.T.nm[i]?=some (cc.cdat d).name)(hl:c.env.scope.names.lookup (cc.cdat d).name=some .local):
  bc cc c A (exec (.FunctionDef (cc.cdat d).name (cc.cdat d).params (cc.cdat d).body [] none [] (cc.cdat d).scope none (cc.cdat d).name (cc.cdat d).pos) c.env) (aj Γ ct c.cl k c.hn (.defc i d)):=by
 intro loc H ad hd s Q E Qr Er F dd po q e;exact B8 O DO eo F DS hcode (codeHd_of_K (O.inG.keeps F.hr.keep) C) (t hd) hx hl fun ad' hd' s' T F'=>KF.next q T F' dd
def eG(h:env.cells.lookup x=some a):cellOf env x=pure a:=by unfold cellOf;rw[h]
noncomputable def TN:VZ:={kind:=.function,names:=[(Vg "place",.local),(Vg "matcher",.free)],isGenerator:=false,isCoroutine:=false}
noncomputable def TO:VZ:={kind:=.function,names:=[(Vg "begin",.cell),(Vg "end",.cell),(Vg "held",.local),(Vg "matcher",.free),(Vg "news",.free),(Vg "expanded",.globalImplicit)],isGenerator:=false,isCoroutine:=false}
noncomputable def TP:VZ:={kind:=.function,names:=[(Vg "number",.local),(Vg "begin",.free),(Vg "end",.free),(Vg "matcher",.free),(Vg "capture_text",.globalImplicit)],isGenerator:=false,isCoroutine:=false}
def cl0(h:env.cells.lookup (Vg "matcher")=some a):XM TN env=pure [(Vg "matcher",a)]:=by
 unfold XM TN;simp only[Yr,Zl];rw[eG h];rfl
def UF{env:Env}{a b:Addr}(h:env.cells.lookup (Vg "matcher")=some a)(h':env.cells.lookup (Vg "news")=some b):XM TO env=pure [(Vg "news",b),(Vg "matcher",a)]:=by
 unfold XM TO;simp only[Yr,Zl];rw[eG h,eG h'];rfl
def UG(h:env.cells.lookup (Vg "begin")=some a)(h':env.cells.lookup (Vg "end")=some b)(h2:env.cells.lookup (Vg "matcher")=some d):
  XM TP env=pure [(Vg "matcher",d),(Vg "end",b),(Vg "begin",a)]:=by
 unfold XM TP;simp only[Yr,Zl];rw[eG h,eG h',eG h2];rfl
def TQ(P:VC):(aU (KP P) 0).scope=TN:=by kernel_rfl
def TS(P:VC):(aU (KP P) 1).scope=TO:=by kernel_rfl
def TT(P:VC):(aU (KP P) 2).scope=TP:=by kernel_rfl
def I1(P:VC):J' (KP P) 315 [Vg "matcher"] [Vg "matcher"] [.c 0]where
 obj:=by kernel_rfl
 code:=by kernel_rfl
 body:=by kernel_rfl
 g:=by kernel_rfl
 b:=by kernel_rfl
 ow:=by kernel_rfl
 nod:=by decide+kernel
 pk:=.cons ⟨rfl,by kernel_rfl⟩ .nil
 pc:=fun j hj=>by simp at hj;simp;exact As hj
 co:=by kernel_rfl
 gen:=by kernel_rfl
 kind:=by kernel_rfl
def I2(P:VC):J' (KP P) 322 [Vg "matcher",Vg "news"] [Vg "matcher",Vg "news"] [.c 0,.c 1]where
 obj:=by kernel_rfl
 code:=by kernel_rfl
 body:=by kernel_rfl
 g:=by kernel_rfl
 b:=by kernel_rfl
 ow:=by kernel_rfl
 nod:=by decide+kernel
 pk:=.cons ⟨rfl,by kernel_rfl⟩ (.cons ⟨rfl,by kernel_rfl⟩ .nil)
 pc:=fun j hj=>by simp at hj;simp;exact GO hj
 co:=by kernel_rfl
 gen:=by kernel_rfl
 kind:=by kernel_rfl
noncomputable def dO:List Stmt->List Stmt|[]=>[]|_::r=>r
noncomputable abbrev pZ(D:z_):Stmt:=.FunctionDef D.name D.params D.body [] none [] D.scope none D.name D.pos
def Bp(P:VC):aW (aS (KP P) 315).body=pZ (aU (KP P) 0)::dO (aW (aS (KP P) 315).body):=by kernel_rfl
def Bq(P:VC):aW (aS (KP P) 322).body=pZ (aU (KP P) 1)::dO (aW (aS (KP P) 322).body):=by kernel_rfl
noncomputable def kM(x:Nat):IS:=.seq (.ret (.loc x)) .skip
def JF(P:VC):compSs bC [Vg "matcher"] 200 (aS (KP P) 315).scope (dO (aW (aS (KP P) 315).body))=kM 39:=by kernel_rfl
def JG(P:VC):compSs bC [Vg "matcher",Vg "news"] 200 (aS (KP P) 322).scope (dO (aW (aS (KP P) 322).body))=kM 40:=by kernel_rfl
def Bi(P:VC):V5 (aS (KP P) 315) ⟨[a],[]⟩=pure [(Vg "matcher",a)]:=by kernel_rfl
def Bj(P:VC):V5 (aS (KP P) 322) ⟨[a,b],[]⟩=pure [(Vg "matcher",a),(Vg "news",b)]:=by kernel_rfl
def IX(P:VC)(B:bh cc gl)(hP:cc.w.params=P){hd0:Option Addr}:pB cc ⟨envC (aS (KP P) 315) L 315,[Vg "matcher"],cl,fr,hn,hd0⟩ [0] 0:=by
 have hc:cc.cdat=aU (KP P):=by rw[B.cdP,hP]
 constructor
 ·rw[hc];kernel_rfl
 ·rw[hc];kernel_rfl
 ·rw[hc];kernel_rfl
 ·rw[hc];kernel_rfl
 ·rw[hc];exact .cons ⟨rfl,.inl (by kernel_rfl)⟩ .nil
 ·intro ads h;rw[hc]at h⊢;rw[TQ];cases h with
  |cons h1 h2=>cases h2;exact cl0 h1
def IY(P:VC)(B:bh cc gl)(hP:cc.w.params=P){hd0:Option Addr}:pB cc ⟨envC (aS (KP P) 322) L 322,[Vg "matcher",Vg "news"],cl,fr,hn,hd0⟩ [1,0] 1:=by
 have hc:cc.cdat=aU (KP P):=by rw[B.cdP,hP]
 constructor
 ·rw[hc];kernel_rfl
 ·rw[hc];kernel_rfl
 ·rw[hc];kernel_rfl
 ·rw[hc];kernel_rfl
 ·rw[hc];exact .cons ⟨rfl,.inl (by kernel_rfl)⟩ (.cons ⟨rfl,.inl (by kernel_rfl)⟩ .nil)
 ·intro ads h;rw[hc]at h⊢;rw[TS];cases h with
  |cons h1 h2=>cases h2 with
   |cons h2 h3=>cases h3;exact UF h2 h1
def Dr(h:tM k hn args H Q E):cU H.length [.c 0] args [] (H++VJ 1 (.cell none))
  (fun loc H'=>bB H H'->aj Γ dj [H.length+0] (k-1) hn (.seq (.defc 39 0) (kM 39)) loc H' (rQ Q) (fun _=>E)):=by
 obtain⟨m,rfl,h1,q⟩:=h;delta dj kM;simp only[pd,pb,pe,B4,xQ,B3,nA,yx,aP,VL,Y9,if_true];intro _;have e:(H++VJ 1 (AO.cell none)).set (H.length+0) (.cell (some (.ref m)))=H++[.cell (some (.ref m))]:=by simp[VJ]
 rw[e];exact q _ H.length _ ((a9.app _ _).trans (a9.app _ _)) (aQ (aB _ _)) (aB _ _) uu (by simp)
def Ds(h:tN k hn args H Q E):cU H.length [.c 0,.c 1] args [] (H++VJ 2 (.cell none))
  (fun loc H'=>bB H H'->aj Γ dj [H.length+0,H.length+1] (k-1) hn (.seq (.defc 40 1) (kM 40)) loc H' (rQ Q) (fun _=>E)):=by
 obtain⟨m,news,rfl,h1,q⟩:=h;delta dj kM;simp only[pd,pb,pe,B4,xQ,B3,nA,yx,aP,VL,Y9,if_true];intro _;have e:((H++VJ 2 (AO.cell none)).set (H.length+0) (.cell (some (.ref m)))).set (H.length+1) (.cell (some (.bytes news)))=H++[.cell (some (.ref m)),.cell (some (.bytes news))]:=by simp[VJ]
 rw[e];refine q _ H.length (H.length+1) _ ((a9.app _ _).trans (a9.app _ _)) (aQ ?_) (aQ ?_) (aB _ _) uu (by exact lg) (by simp)
 ·rw[Vm (by exact uu)];simp
 ·rw[Vm (by exact lg)];simp
def BE(B:bh cc gl)(V:az cc (Gm gl n))(h:tM k hn args H Q E):aH cc k hn (.ref 315) args H ad hd Q E:=by
 have l:1<=k/\args.length=1:=by obtain⟨m,rfl,h1,q⟩:=h;exact⟨by exact bS h1,rfl⟩
 have G:=B.good V;refine lp G (B.K▸I1 _) (D:=fun k'=>aj (Gm gl n) dj [H.length+0] k' hn (.seq (.defc 39 0) (kM 39))) (fun vals hl=>?_) l.1 (fun L A fr hd0 ao eo tp=>?_) (Dr h)
 ·refine cX vals (nO (hl.trans l.2)) fun a=>?_;rw[B.K];exact Bi _
 ·have e0:(VE [Vg "matcher"].length).map (H.length+·)=[H.length+0]:=rfl;rw[e0]at ao eo tp⊢;rw[B.K]at ao eo tp⊢;have r:=(lM (ct:=dj) (mv cc) G.O G.LO G.V G.MO 200).ss _ _ (k-1) (aS (KP cc.w.params) 315).scope (dO (aW (aS (KP cc.w.params) 315).body)) ao eo tp (aN.refl _);have e1:compSs cc.T [Vg "matcher"] 200 (aS (KP cc.w.params) 315).scope (dO (aW (aS (KP cc.w.params) 315).body))=kM 39:=by rw[G.T];exact JF _
  rw[e1]at r;have dd:=vB (k:=k-1) (Γ:=Gm gl n) (A:=A) (ct:=dj) (d:=0) (i:=39) (cE:=314) (P:=310) G.O B.D eo (IX _ B rfl) (by kernel_rfl) (by rw[B.K];kernel_rfl) (fun hd=>B.tE.symm) (by rw[G.T,B.cdP];kernel_rfl) (by rw[B.cdP];kernel_rfl);rw[B.cdP]at dd;have b:=Bp cc.w.params;clear eo ao tp e1;generalize envC (aS (KP cc.w.params) 315) L 315=env at*;generalize aU (KP cc.w.params) 0=DD at*;generalize dO (aW (aS (KP cc.w.params) 315).body)=rs at*;generalize aW (aS (KP cc.w.params) 315).body=bs at*;subst b;have q:=n6 dd r;intro loc H Q E;have q:=q loc H Q E;exact q
def BF(B:bh cc gl)(V:az cc (Gm gl n))(h:tN k hn args H Q E):aH cc k hn (.ref 322) args H ad hd Q E:=by
 have l:1<=k/\args.length=2:=by obtain⟨m,news,rfl,h1,q⟩:=h;exact⟨by exact bS h1,rfl⟩
 have G:=B.good V;refine lp G (B.K▸I2 _) (D:=fun k'=>aj (Gm gl n) dj [H.length+0,H.length+1] k' hn (.seq (.defc 40 1) (kM 40))) (fun vals hl=>?_) l.1 (fun L A fr hd0 ao eo tp=>?_) (Ds h)
 ·refine uf vals (qy (hl.trans l.2)) fun a b=>?_;rw[B.K];exact Bj _
 ·have e0:(VE [Vg "matcher",Vg "news"].length).map (H.length+·)=[H.length+0,H.length+1]:=rfl;rw[e0]at ao eo tp⊢;rw[B.K]at ao eo tp⊢;have r:=(lM (ct:=dj) (mv cc) G.O G.LO G.V G.MO 200).ss _ _ (k-1) (aS (KP cc.w.params) 322).scope (dO (aW (aS (KP cc.w.params) 322).body)) ao eo tp (aN.refl _);have e1:compSs cc.T [Vg "matcher",Vg "news"] 200 (aS (KP cc.w.params) 322).scope (dO (aW (aS (KP cc.w.params) 322).body))=kM 40:=by rw[G.T];exact JG _
  rw[e1]at r;have dd:=vB (k:=k-1) (Γ:=Gm gl n) (A:=A) (ct:=dj) (d:=1) (i:=40) (cE:=321) (P:=317) G.O B.D eo (IY _ B rfl) (by kernel_rfl) (by rw[B.K];kernel_rfl) (fun hd=>B.tG.symm) (by rw[G.T,B.cdP];kernel_rfl) (by rw[B.cdP];kernel_rfl);rw[B.cdP]at dd;have b:=Bq cc.w.params;clear eo ao tp e1;generalize envC (aS (KP cc.w.params) 322) L 322=env at*;generalize aU (KP cc.w.params) 1=DD at*;generalize dO (aW (aS (KP cc.w.params) 322).body)=rs at*;generalize aW (aS (KP cc.w.params) 322).body=bs at*;subst b;have q:=n6 dd r;intro loc H Q E;have q:=q loc H Q E;exact q
end
section
variable{cc:CC}{gl:GL}
def xh(B:bh cc gl){n:Nat}(V:az cc (Gm gl n)):az cc (Gm gl (n+1))where
 fn:=fun f k hn args H ad hd Q E ⟨hk,h⟩=>by
  refine n7 (l:=t8) (k:=k) (hn:=hn) (args:=args) (H:=H) (Q:=Q) (E:=E) (C:=fun f=>aH cc k hn (.ref f) args H ad hd Q E) ⟨fun h=>BN B V h hk,fun h=>BS B V h hk,fun h=>BG B V h hk,fun h=>BJ B V h hk,fun h=>BH B V h hk,fun h=>Es B V h hk,fun h=>BI B V h hk,fun h=>BP B V h hk,fun h=>PY B V h hk,fun h=>uJ B V h hk,fun h=>BL B V h hk,fun h=>y_ B V h hk,fun h=>BO B V h hk,fun h=>Ep B V h hk,fun h=>wi B V h hk,fun h=>ID B V h hk,fun h=>Ew B V h hk,fun h=>BM B V h hk,fun h=>BR B V h hk,fun h=>IF B V h hk,fun h=>wj B V h hk,fun h=>wh B V h hk,fun h=>uI B V h hk,fun h=>Ey B V h hk,fun h=>BK B V h hk,fun h=>yZ B V h hk,fun h=>Ez B V h hk,fun h=>BE B V h,fun h=>BF B V h,fun h=>BQ B V h hk,fun h=>Et B V h hk,trivial⟩ h
 clos:=fun d cl k hn args H ad hd Q E i a hi ha ⟨hk,h⟩=>by
  unfold w' at h
  split at h
  ·exact Em B V hi ha h hk
  ·exact Eo B V hi ha h hk
  ·exact h.elim
 gl:=B.gl
def uV{n k f:Nat}{hn:Bool}{args:List AV}{H:AH}{Q:QE}{E:AH->Prop}(h:xa f k hn args H Q E):1<=k:=by
 exact n7 (l:=t8) (k:=k) (hn:=hn) (args:=args) (H:=H) (Q:=Q) (E:=E) (C:=fun _=>1<=k) ⟨fun h=>by obtain⟨c,rfl,h1,q⟩:=h;exact h1,fun h=>by obtain⟨c,rfl,h1,q⟩:=h;exact h1,fun h=>by obtain⟨c,rfl,h1,q⟩:=h;exact GI h1,fun h=>by obtain⟨c,rfl,h1,q⟩:=h;exact bS h1,fun h=>by obtain⟨c,l,rfl,hl,h1,q⟩:=h;exact GJ h1,fun h=>by obtain⟨m,d,T,P,rfl,hi,hd,hT,hP,h1,q⟩:=h;exact bS h1,fun h=>by obtain⟨m,d,T,P,dep,lev,ls,ll,rfl,M,h1,q⟩:=h;exact bS h1,fun h=>by obtain⟨m,d,T,P,dep,lev,ls,ll,rfl,M,h1,q⟩:=h;exact bS h1,fun h=>by obtain⟨m,d,p,T,P,dep,lev,ls,ll,rfl,M,h1,q⟩:=h;exact bS h1,fun h=>by obtain⟨m,d,p,T,P,dep,lev,ls,ll,rfl,M,h1,q⟩:=h;exact kJ h1,fun h=>by obtain⟨m,d,c,p,last,T,P,dep,lev,ls,ll,rfl,M,hP,hlast,h1,q⟩:=h;exact GK h1,fun h=>by obtain⟨m,d,s,p,e,T,P,dep,lev,ls,ll,rfl,M,hP,hp,h37,e1,e2,h1,q⟩:=h;exact kJ h1,fun h=>by obtain⟨m,d,s,p,T,P,dp,ls,ll,cs,f,rfl,M,hP,hp,hf,hd,h1,q⟩:=h;exact GM h1,fun h=>by obtain⟨m,d,s,p,T,P,dp,ls,ll,cs,f,rfl,M,hP,hp,hf,hd,h1,q⟩:=h;exact GN h1,fun h=>by obtain⟨m,d,s,p,T,P,dep,lev,ls,ll,rfl,M,h1,q⟩:=h;exact xG h1,fun h=>by obtain⟨m,d,s,p,T,P,dep,lev,ls,ll,rfl,M,h1,q⟩:=h;exact kJ h1,fun h=>by obtain⟨m,d,s,p,e,T,P,dp,ls,ll,cs,f,rfl,M,hP,hp,h37,he1,he2,hf,hd,h1,q⟩:=h;exact oa h1,fun h=>by obtain⟨m,d,s,p,e,T,P,dp,ls,ll,cs,f,rfl,M,hP,hp,h37,he1,he2,hf,hd,h1,q⟩:=h;exact oa h1,fun h=>by obtain⟨m,d,s,p,kind,T,P,dp,ls,ll,cs,f,rfl,M,hP,hp,hf,hd,h1,q⟩:=h;exact oa h1,fun h=>by obtain⟨m,d,s,p,T,P,dp,ls,ll,cs,f,rfl,M,hP,hp,hf,hd,h1,q⟩:=h;exact oa h1,fun h=>by obtain⟨m,d,T,P,dep,ls,ll,cs,rfl,M,h1,q⟩:=h;exact kJ h1,fun h=>by obtain⟨m,d,nn,s,e,T,P,dep,ls,ll,cs,rfl,M,hcs,h1,q⟩:=h;exact kJ h1,fun h=>by obtain⟨m,d,s,e,T,P,dp,ls,ll,cs,rfl,M,hcs,h1,rfl,hl40,q⟩:=h;exact xG h1,fun h=>by obtain⟨b,rfl,h1,q⟩:=h;exact bS h1,fun h=>by obtain⟨m,d,b,cm,ea,T,P,dep,lev,ls,ll,rfl,M,hP,hcm,hea,h1,q⟩:=h;exact Ar h1,fun h=>by obtain⟨b,e,rfl,h1,q⟩:=h;exact bS h1,fun h=>by obtain⟨bag,sl,a,many,xs,rfl,hb,hsl,hx,ha,hm,h1,q⟩:=h;exact bS h1,fun h=>by obtain⟨m,rfl,h1,q⟩:=h;exact bS h1,fun h=>by obtain⟨m,news,rfl,h1,q⟩:=h;exact bS h1,fun h=>by obtain⟨T,P,rfl,hP,hT,rfl,h1,q⟩:=h;exact rk h1,fun h=>by obtain⟨l,T,sp,rfl,ht,hsp,hT,rfl,h1,q⟩:=h;exact bS h1,trivial⟩ h
theorem HV(B:bh cc gl):∀n,az cc (Gm gl n)
 |0=>by
  refine⟨fun f k hn args H ad hd Q E ⟨hk,h⟩=>?_,fun d cl k hn args H ad hd Q E i a hi ha ⟨hk,h⟩=>?_,B.gl⟩
  ·have:=uV (n:=0) h;omega
  ·unfold w' at h
   split at h
   ·obtain⟨m,d,b,cm,T,P,dep,lev,ls,ll,rfl,rfl,M,hP,hm,h1,q⟩:=h;omega
   ·obtain⟨m,d,b,e,nn,cb,ce,cm,T,P,dp,ls,ll,cs,rfl,rfl,M,hcs,hb,he,hm,h1,q⟩:=h;omega
   ·exact h.elim
 |n+1=>xh B (HV B n)
end
section
noncomputable def nK:List Stmt->Bool
 |[s]=>(match s with
  |.Return v _=>(match v with
   |some e=>(match e with|.Constant k _ _=>(match k with|.none=>true|_=>false)|_=>false)
   |none=>false)
  |_=>false)
 |_=>false
def s9(e:nK (h::l)=true):∃n p r,h=.Return (some (.Constant .none n p)) r/\l=[]:=by
 refine Ks h l fun R hR=>?_;induction l using Vr with
 |cons _ _=>injection e
 |nil=>
  induction h using Stmt.casesOn with
  |Return v r=>
   induction v using Option.casesOn with
   |none=>injection e
   |some x=>
    induction x using Expr.casesOn with
    |Constant k n p=>
     induction k using XN with
     |none=>exact hR _ _ (Qk _ _ _ rfl rfl)
     |_=>injection e
    |_=>injection e
  |_=>injection e
noncomputable def wR(T:kE)(cn:List Str)(sc:VZ)(rs:List Expr->IEs)(d:NX)(f:Str)(as:List Expr):NX:=if !(as.all aK)then .a .bad else match pO T sc f with
 |.fn a=>if a==36||a==43||a==329 then .call a (rs as)else d
 |.val=>if f==("give":Str)then .callv (r8 T sc cn f) (rs as)else d
 |_=>d
noncomputable def wU(r:Expr->IE)(rN:Expr->NX)(d:NX)(o:Expr)(m:Str)(ap pos:Pos)(x:Expr):NX:=if bU o|| !(ap.endLine==pos.line)|| !(aK x)then d
 else if m==("extend":Str)then .bext (r o) (rN x)else if m==("append":Str)then .bapp (r o) (r x)else d
noncomputable def NX.isA:NX->Bool|.a _=>true|_=>false
noncomputable def CP(r:Expr->IE)(d l':NX)(op:CmpOp)(x:Expr):NX:=if l'.isA then d else match op with
 |.Is=>if eC x then .isN l' else .a .bad
 |op=>(match iJ op with|some o=>.cmp o l' (r x)|none=>.a .bad)
noncomputable def s8(T:kE)(sc:VZ):Expr->Bool
 |.Call f as kw _=>as.isEmpty&&kw.isEmpty&&(match ez f with|some x=>x==("bytearray":Str)&&(sc.names.lookup x==some .globalImplicit)|none=>false)
 |_=>false
def wG(h:s8 T sc e=true):∃fp p,e=.Call (.Name (Vg "bytearray") fp) [] [] p/\sc.names.lookup (Vg "bytearray")=some .globalImplicit:=by
 refine sC e fun R hR=>?_;induction e using Expr.casesOn with
 |Call f as kw p=>
  delta s8 at h;simp only[VU,Z6]at h;obtain⟨⟨rfl,rfl⟩,h⟩:=h;induction hx:ez f using Option.casesOn with
  |none=>rw[hx]at h;injection h
  |some x=>
   refine cX f (fj hx) fun fp=>?_;rw[hx]at h;simp only[VU,beq_iff_eq]at h;obtain⟨rfl,h⟩:=h;exact hR _ (i2 _ _ rfl h)
 |_=>injection h
noncomputable def CR(T:kE)(sc:VZ)(rs:List Expr->IEs)(d:NX):List Expr->NX
 |e::es=>if s8 T sc e then .tupB (rs es)else d
 |[]=>d
noncomputable def cN(T:kE)(cn:List Str):Nat->VZ->Expr->NX
 |0,_,_=>.a .bad
 |n+1,sc,e=>match e with
  |.Call f as kw pos=>(match kw with
   |[]=>(match f with
    |.Name x _=>wR T cn sc (compEs T cn true n sc) (.a (aF T cn true (n+1) sc e)) x as
    |.Attribute o m ap=>(match as with|[x]=>wU (aF T cn true n sc) (cN T cn n sc) (.a (aF T cn true (n+1) sc e)) o m ap pos x|_=>.a (aF T cn true (n+1) sc e))
    |_=>.a (aF T cn true (n+1) sc e))
   |_=>.a (aF T cn true (n+1) sc e))
  |.Compare l ops cs _=>(match ops,cs with|[op],[x]=>CP (aF T cn true n sc) (.a (aF T cn true (n+1) sc e)) (cN T cn n sc l) op x|_,_=>.a (aF T cn true (n+1) sc e))
  |.Tuple es _ _=>CR T sc (compEs T cn true n sc) (.a (aF T cn true (n+1) sc e)) es
  |_=>.a (aF T cn true (n+1) sc e)
noncomputable def CN(T:kE)(sc:VZ)(d:NS)(x:NX)(v:Expr):List Expr->NS
 |[t]=>(match t with
  |.Tuple es _ _=>if x.isA then d else if bL v|| !(cf v)then .a .bad else(match dg T sc es with|some l=>.asgT l x|none=>.a .bad)
  |_=>d)
 |_=>d
mutual
noncomputable def BV(T:kE)(cn:List Str):Nat->VZ->Stmt->NS
 |0,_,_=>.a .bad
 |n+1,sc,s=>match s with
  |.Return v _=>(match v with|some e=>.ret (cN T cn n sc e)|none=>.a (mr T cn (n+1) sc s))
  |.Assign ts v _=>CN T sc (.a (mr T cn (n+1) sc s)) (cN T cn n sc v) v ts
  |.If c a b _=>.ite (cN T cn n sc c) (compNSs T cn n sc a) (compNSs T cn n sc b)
  |.While c b o _=>(match o with|[]=>.while (aF T cn true n sc c) (compNSs T cn n sc b)|_=>.a .bad)
  |.Expr e _=>if(cN T cn n sc e).isA then .a (mr T cn (n+1) sc s)else if bL e then .a .bad else .expr (cN T cn n sc e)
  |.Try b hs o f _=>(match o with
   |[]=>(match f with
    |[]=>(match vh sc hs with|some h=>if nK h then .tryR (compNSs T cn n sc b)else .tryL (compNSs T cn n sc b) (compNSs T cn n sc h)|none=>.a .bad)
    |_=>.a .bad)
   |_=>.a .bad)
  |_=>.a (mr T cn (n+1) sc s)
noncomputable def compNSs(T:kE)(cn:List Str):Nat->VZ->List Stmt->NS
 |0,_,_=>.a .bad
 |_+1,_,[]=>.a .skip
 |n+1,sc,s::r=>.seq (BV T cn n sc s) (compNSs T cn n sc r)
end
variable{cc:CC}{c:FC}{A:VN}{Γ ΓN:cM}{ct:CT}{k:Nat}{loc:aM}{sc:VZ}
def vM:Slot "bytearray" "extend" "bytearray.extend":=
 .of (owner:="bytearray") (n:="extend") (by rw[V7,VO];kernel_rfl) (by decide+kernel) (by decide+kernel) (by decide+kernel)
  (by first|exact .inl (by decide+kernel)|exact .inr (by decide+kernel)) (by rw[Wk];kernel_rfl)
def vL:Slot "bytearray" "append" "bytearray.append":=
 .of (owner:="bytearray") (n:="append") (by rw[V7,VO];kernel_rfl) (by decide+kernel) (by decide+kernel) (by decide+kernel)
  (by first|exact .inl (by decide+kernel)|exact .inr (by decide+kernel)) (by rw[Wk];kernel_rfl)
structure pC(cc:CC)(Γ ΓN:cM):Prop extends Aa cc Γ where
 N:fS cc ΓN
variable(G:pC cc Γ ΓN)
structure PN(cc:CC)(Γ ΓN:cM)(c:FC)(A:VN)(k:Nat)(loc:aM)(e:Expr)(x:NX):Prop where
 v:cT cc c A loc (eval e c.env) (bT Γ ΓN c.cl k c.hn loc x)
 t:uj cc c A loc (VM e c.env (eval e c.env)) (rE Γ ΓN c.cl k c.hn loc x)
variable{e:Expr}
def PN.a(h:PE cc Γ c A k loc e i):PN cc Γ ΓN c A k loc e (.a i):=⟨h.1.n,h.2.n⟩
def PN.bad:PN cc Γ ΓN c A k loc e (.a .bad):=⟨(iE (Γ:=Γ) (k:=k)).n,(j4 (Γ:=Γ) (k:=k)).n⟩
def PN.no(h:cT cc c A loc (eval e c.env) (bT Γ ΓN c.cl k c.hn loc x))(hx:∀H Q E,¬rE Γ ΓN c.cl k c.hn loc x H Q E):PN cc Γ ΓN c A k loc e x:=
 ⟨h,fun H ad hd s Q E Qr Er F d=>absurd d (hx _ _ _)⟩
include G
def zw(ao:bx c A k)(eo:ay c)(tp:aR c A)(S:aN sc c.env.scope)(aok:PN cc Γ ΓN c A k loc (.Call (.Name f fp) as [] pos) d):
  PN cc Γ ΓN c A k loc (.Call (.Name f fp) as [] pos) (wR cc.T c.cn sc (compEs cc.T c.cn true n sc) d f as):=by
 unfold wR;induction hs:as.all aK using Vu with
 |false=>exact PN.bad
 |true=>
  have hL:=((iw (mv cc) G.O G.V G.MO) n).es c A k sc true loc as pos ao eo (fun _=>tp) S;show PN cc Γ ΓN c A k loc _ (match pO cc.T sc f with|.fn a=>_|.val=>_|_=>_);induction hk:pO cc.T sc f using CK.casesOn with
  |fn a=>
   refine qX (gb hk) fun h1 h2 h3=>?_;refine kY (G.O.globs _ _ h3) fun g1 g2=>?_;dsimp only
   split
   ·exact .no (zN G.O G.N ao hs g2 rfl (fun F q=>sW G.O eo (cy S h2) g1 h1 F q) hL) fun _ _ _ d=>d
   ·exact aok
  |val=>
   dsimp only
   split
   ·exact .no (w9 G.N ao hs rfl (qO (Γ:=Γ) (k:=k) G.O eo S) hL) fun _ _ _ d=>d
   ·exact aok
  |_=>exact aok
def zx(ao:bx c A k)(eo:ay c)(tp:aR c A)(S:aN sc c.env.scope)(ih:PN cc Γ ΓN c A k loc x (cN cc.T c.cn n sc x))(aok:PN cc Γ ΓN c A k loc (.Call (.Attribute o m ap) [x] [] pos) d):
  PN cc Γ ΓN c A k loc (.Call (.Attribute o m ap) [x] [] pos) (wU (aF cc.T c.cn true n sc) (cN cc.T c.cn n sc) d o m ap pos x):=by
 unfold wU;have M:=(iw (mv cc) G.O G.V G.MO) n;induction hz:(bU o|| !(ap.endLine==pos.line)|| !(aK x))using Vu with
 |true=>exact aok
 |false=>
  simp only[XF,Bool.not_eq_false']at hz;rw[if_neg V9]
  split
  ·rename_i hm;obtain rfl:=beq_iff_eq.mp hm;exact .no (oO vM rfl hz.1.1 hz.1.2 hz.2 (M.e c A k sc true loc o ao eo (fun _=>tp) S).1 ih.v (L:=rx) yQ) fun _ _ _ d=>d
  split
  ·rename_i hm;obtain rfl:=beq_iff_eq.mp hm;exact .no (oO vL rfl hz.1.1 hz.1.2 hz.2 (M.e c A k sc true loc o ao eo (fun _=>tp) S).1 (M.e c A k sc true loc x ao eo (fun _=>tp) S).1.n (L:=rt) yP) fun _ _ _ d=>d
  ·exact aok
def CQ{n:Nat}{d l':NX}{l x:Expr}{op:CmpOp}{pos:Pos}(ao:bx c A k)(eo:ay c)(tp:aR c A)(S:aN sc c.env.scope)(ih:PN cc Γ ΓN c A k loc l l')(aok:PN cc Γ ΓN c A k loc (.Compare l [op] [x] pos) d):
  PN cc Γ ΓN c A k loc (.Compare l [op] [x] pos) (CP (aF cc.T c.cn true n sc) d l' op x):=by
 unfold CP;have hx:=((((iw (mv cc) G.O G.V G.MO) n).e c A k sc true loc x ao eo (fun _=>tp) S)).1;have gen:PN cc Γ ΓN c A k loc (.Compare l [op] [x] pos) (match iJ op with|some o=>.cmp o l' (aF cc.T c.cn true n sc x)|none=>.a .bad):=by
  induction ho:iJ op using Option.casesOn with
  |none=>exact PN.bad
  |some o=>
   rw[mu ho];exact⟨Dc (mv cc) ao ih.v hx,zZ (mv cc) ao ih.v hx⟩
 split
 ·exact aok
 induction op using CmpOp.casesOn with
 |Is=>
  dsimp only
  split
  ·rename_i hr;exact .no (vE hr ih.v) fun _ _ _ d=>d
  ·exact PN.bad
 |_=>exact gen
def CS(ao:bx c A k)(eo:ay c)(tp:aR c A)(S:aN sc c.env.scope)(aok:PN cc Γ ΓN c A k loc (.Tuple es kk pos) d):
  PN cc Γ ΓN c A k loc (.Tuple es kk pos) (CR cc.T sc (compEs cc.T c.cn true n sc) d es):=by
 induction es using Vr with
 |nil=>exact aok
 |cons e es=>
  unfold CR;dsimp only
  split
  ·rename_i h;refine Kf e (wG h) fun fp p h2=>?_;exact .no (zS rfl (zM G.O eo (cy S h2)) (((iw (mv cc) G.O G.V G.MO) n).es c A k sc true loc es pos ao eo (fun _=>tp) S)) fun _ _ _ d=>d
  ·exact aok
theorem CU:∀(n:Nat)(e:Expr)(loc:aM),bx c A k->ay c->aR c A->aN sc c.env.scope->PN cc Γ ΓN c A k loc e (cN cc.T c.cn n sc e)
 |0,e,loc,ao,eo,tp,S=>PN.bad
 |n+1,e,loc,ao,eo,tp,S=>by
  have aok:PN cc Γ ΓN c A k loc e (.a (aF cc.T c.cn true (n+1) sc e)):=.a (((iw (mv cc) G.O G.V G.MO) (n+1)).e c A k sc true loc e ao eo (fun _=>tp) S);induction e using Expr.casesOn with
  |Call f as kw pos=>
   induction kw using Vr with
   |cons _ _=>exact aok
   |nil=>
    induction f using Expr.casesOn with
    |Name x xp=>exact zw G ao eo tp S aok
    |Attribute o m ap=>
     induction as using Vr with
     |nil=>exact aok
     |cons x r=>
      induction r using Vr with
      |nil=>exact zx G ao eo tp S (CU n x loc ao eo tp S) aok
      |cons _ _=>exact aok
    |_=>exact aok
  |Compare l ops cs pos=>
   induction ops using Vr with
   |nil=>exact aok
   |cons op r=>
    induction r using Vr with
    |cons _ _=>exact aok
    |nil=>
     induction cs using Vr with
     |nil=>exact aok
     |cons x r=>
      induction r using Vr with
      |cons _ _=>exact aok
      |nil=>exact CQ G ao eo tp S (CU n l loc ao eo tp S) aok
  |Tuple es kk pos=>exact CS G ao eo tp S aok
  |_=>exact aok
end
section
variable{cc:CC}{c:FC}{A:VN}{Γ ΓN:cM}{ct:CT}{k:Nat}{loc:aM}{sc:VZ}
variable(G:pC cc Γ ΓN)
include G
omit G in
def cx:bA cc c A t (aA Γ ΓN ct c.cl k c.hn (.a .bad)):=fun _ _ _ _ _ _ _ _ _ _ d=>Xn d
def CO(ao:bx c A k)(eo:ay c)(S:aN sc c.env.scope)(X:∀loc,PN cc Γ ΓN c A k loc v (cN cc.T c.cn n sc v))(aok:bA cc c A (exec (.Assign ts v pos) c.env) (aA Γ ΓN ct c.cl k c.hn d)):
  bA cc c A (exec (.Assign ts v pos) c.env) (aA Γ ΓN ct c.cl k c.hn (CN cc.T sc d (cN cc.T c.cn n sc v) v ts)):=by
 induction ts using Vr with
 |nil=>exact aok
 |cons t r=>
  induction r using Vr with
  |cons _ _=>exact aok
  |nil=>
   induction t using Expr.casesOn with
   |Tuple es kk tp=>
    unfold CN;dsimp only
    split
    ·exact aok
    split
    ·exact cx
    ·rename_i hh;simp only[Ys,Bool.not_eq_true',not_or,Xj,Bool.not_eq_false]at hh;induction hl:dg cc.T sc es using Option.casesOn with
     |none=>exact cx
     |some l=>exact oV (Γ:=Γ) G.O eo ao S hl hh.1 hh.2 fun loc=>(X loc).v
   |_=>exact aok
structure RR(cc:CC)(Γ ΓN:cM)(ct:CT)(n:Nat):Prop where
 s:∀(c:FC)(A:VN)(k:Nat)(sc:VZ)(st:Stmt),bx c A k->ay c->aR c A->aN sc c.env.scope->bA cc c A (exec st c.env) (aA Γ ΓN ct c.cl k c.hn (BV cc.T c.cn n sc st))
 ss:∀(c:FC)(A:VN)(k:Nat)(sc:VZ)(ss:List Stmt),bx c A k->ay c->aR c A->aN sc c.env.scope->bA cc c A (Wt ss c.env) (aA Γ ΓN ct c.cl k c.hn (compNSs cc.T c.cn n sc ss))
def E8(I:RR cc Γ ΓN ct n):RR cc Γ ΓN ct (n+1)where
 s:=fun c A k sc st ao eo tp S=>by
  have aok:bA cc c A (exec st c.env) (aA Γ ΓN ct c.cl k c.hn (.a (mr cc.T c.cn (n+1) sc st))):=((lM (ct:=ct) (mv cc) G.O G.LO G.V G.MO (n+1)).s c A k sc st ao eo tp S).n;have X:∀e loc,PN cc Γ ΓN c A k loc e (cN cc.T c.cn n sc e):=fun e loc=>CU G n e loc ao eo tp S;have Is:∀ss,bA cc c A (Wt ss c.env) (aA Γ ΓN ct c.cl k c.hn (compNSs cc.T c.cn n sc ss)):=fun ss=>I.ss c A k sc ss ao eo tp S;induction st using Stmt.casesOn with
  |Return v p=>
   induction v using Option.casesOn with
   |none=>exact aok
   |some e=>exact zD fun loc=>(X e loc).v
  |Assign ts v p=>exact CO G ao eo S (X v) aok
  |If c a b p=>exact C6 (fun loc=>(X _ loc).t) (Is _) (Is _)
  |While c b o p=>
   induction o using Vr with
   |nil=>exact vA (fun loc=>((iw (mv cc) G.O G.V G.MO n).e _ A k sc true loc _ ao eo (fun _=>tp) S).2.n) (Is _)
   |cons _ _=>exact cx
  |Expr e p=>
   show bA cc c A _ (aA Γ ΓN ct c.cl k c.hn (if(cN cc.T c.cn n sc e).isA=true then .a (mr cc.T c.cn (n+1) sc (.Expr e p))else if bL e=true then .a .bad else .expr (cN cc.T c.cn n sc e)))
   split
   ·exact aok
   split
   ·exact cx
   ·rename_i hc;exact w4 eo (Bool.eq_false_iff.mpr hc) fun loc=>(X e loc).v
  |Try b hs o f p=>
   induction o using Vr with
   |cons _ _=>exact cx
   |nil=>
    induction f using Vr with
    |cons _ _=>exact cx
    |nil=>
     show bA cc c A _ (aA Γ ΓN ct c.cl k c.hn (match vh sc hs with|some h=>if nK h=true then .tryR (compNSs cc.T c.cn n sc b)else .tryL (compNSs cc.T c.cn n sc b) (compNSs cc.T c.cn n sc h)|none=>.a .bad));induction hh:vh sc hs using Option.casesOn with
     |none=>exact cx
     |some h=>
      obtain⟨np,h0,hb,hp,rfl,rfl,h2⟩:=yi hh;dsimp only
      split
      ·rename_i hr;obtain⟨n',p',r',rfl,rfl⟩:=s9 hr;exact w5 G.O G.LO eo ao tp (cy S h2) (Is _)
      ·exact zE G.O G.LO eo ao tp (cy S h2) (Is _) (DSb:=aA Γ ΓN ct c.cl k false (compNSs cc.T c.cn n sc (h0::hb))) fun ea=>
        I.ss {c with hn:=false,hd0:=some ea} (A.mark (some (.ref ea))) k sc _ (ao.mark rfl) ⟨eo.kind,eo.globals,eo.builtins⟩ ⟨tp.top,tp.frame⟩ S
  |_=>exact aok
 ss:=fun c A k sc ss ao eo tp S=>by
  induction ss using Vr with
  |nil=>exact vC.n
  |cons x r=>exact w3 (I.s c A k sc x ao eo tp S) (I.ss c A k sc r ao eo tp S)
theorem tv:∀n,RR cc Γ ΓN ct n
 |0=>⟨fun _ _ _ _ _ _ _ _ _=>cx,fun _ _ _ _ _ _ _ _ _=>cx⟩
 |n+1=>E8 G (tv n)
end
section
variable{cc:CC}{gl:GL}{n k:Nat}{H:AH}{ad:List Addr}{hd:Hid}{hn:Bool}{Q:QE}{E:AH->Prop}{args:List AV}{fr:List (Addr×Obj)}{s:Vo}{ct:CT}{Γ ΓN:cM}{h:Heap}
structure Ko(K:Frag)(a:Addr)(xs:List Str)(ps:List Nat)(ir:NS):Prop where
 obj:K.lookup a=some {cls:=.type "function",data:=.func (aS K a)}
 code:pU K (aS K a).code (aS K a).qualname=true
 body:(aS K a).body=.stmts (aW (aS K a).body)
 g:(aS K a).globals=mainGlobals
 b:(aS K a).builtins=W4
 cell:qD (aS K a).scope.names=true
 loc:xs.map (fun x=>(aS K a).scope.names.lookup x)=xs.map (fun _=>some .local)
 nm:ps.map (bC.nm[·]?)=xs.map some
 nod:xs.Nodup
 ir:compNSs bC [] 200 (aS K a).scope (aW (aS K a).body)=ir
 co:(aS K a).scope.isCoroutine=false
 gen:(aS K a).scope.isGenerator=false
 kind:(aS K a).scope.kind=.function
def og(G:pC cc Γ ΓN){a:Addr}{xs:List Str}{ps:List Nat}{ir:NS}(F:Ko cc.K a xs ps ir){args extra:List AV}{exv:List Vq}(hex:aw (VR ad) extra exv)
  (hbind:∀(s:Vo)(vals:List Vq),cc.K.In s.heap->vals.length=args.length->Xp s (aS cc.K a) ⟨vals,[]⟩ (xs.zip (vals++exv)))(hk:1<=k)
  (vc:aA Γ ΓN ct [] (k-1) hn ir (ps.zip (args++extra)) H (lR Q) (fun _=>E)):cI cc k hn (.ref a) args H ad hd Q E:=by
 intro hd0 A fr s vals R C hr en;have K1:cc.K.In s.heap:=G.O.inG.keeps C.hr.keep;refine sR G.O C hk (K1 _ _ F.obj) rfl (eM K1 F.code) F.body F.g F.b (hbind s vals K1 hr.length.symm) (fE F.cell) (fun x hx=>fY F.loc _ (j9 hx)) (loc0:=ps.zip (args++extra)) (D:=fun k'=>aA Γ ΓN ct [] k' hn ir) (cn:=[]) (cl:=[])
  (by rw[G.T];exact lL F.nm F.nod (hr.append hex)) (fun j x e=>by injection e) (fZ F.cell) (fun L ao tp=>?_) vc en F.co F.gen F.kind
 have:=(tv (ct:=ct) G 200).ss ⟨Wi (aS cc.K a) L a,[],[],fr,hn,hd0⟩ _ (k-1) (aS cc.K a).scope (aW (aS cc.K a).body) ao ⟨F.kind,F.g,F.b⟩ tp (aN.refl _);rw[G.T,F.ir]at this;exact this
def Js(P:VC):Ko (KP P) 36 ["news","held","most"] [33,34,35] iy:=by constructor<;>first|kernel_rfl|decide+kernel
def Jt(P:VC):Ko (KP P) 43 ["text","most","is_bound","ends_at","give"] [8,35,38,39,40] iA:=by constructor<;>first|kernel_rfl|decide+kernel
def EI(P:VC):Ko (KP P) 329 ["text","pattern","news","most","is_bound"] [8,9,33,35,38] qB:=by constructor<;>first|kernel_rfl|decide+kernel
def EC(P:VC):(aS (KP P) 36).defaults=.ref 29:=by kernel_rfl
def Tc(P:VC):(KP P).lookup 29=some {cls:=.type "tuple",data:=.seq #[.none]}:=by kernel_rfl
def Ea(P:VC)(X:(KP P).In s.heap):Xp s (aS (KP P) 36) ⟨[a,b],[]⟩ [(Vg "news",a),(Vg "held",b),(Vg "most",.none)]:=by
 refine BindsTo.of_defaults (EC P) (X _ _ (Tc P)) rfl (h₁:=?_) (k:=?_) ?_
 rotate_left
 ·exact rfl
 ·kernel_rfl
def Eb(P:VC):V5 (aS (KP P) 43) ⟨[a,b,c,d,e],[]⟩=pure [(Vg "text",a),(Vg "most",b),(Vg "is_bound",c),(Vg "ends_at",d),(Vg "give",e)]:=by kernel_rfl
def Bk(P:VC):V5 (aS (KP P) 329) ⟨[a,b,c,d,e],[]⟩=pure [(Vg "text",a),(Vg "pattern",b),(Vg "news",c),(Vg "most",d),(Vg "is_bound",e)]:=by kernel_rfl
def bh.goodN(B:bh cc gl)(N:fS cc (fQ gl n)):pC cc (Gm gl n) (fQ gl n):=⟨B.good (HV B n),N⟩
def uK(B:bh cc gl)(N:fS cc (fQ gl n))(h:kq k hn args H Q E)(hk:k<=n+1):cI cc k hn (.ref 36) args H ad hd Q E:=by
 have l:1<=k/\args.length=2:=by obtain⟨hc,cm,ce,cb,m,d,b,e,T,P,dp,ls,ll,cs,news,rfl,hhc,M,hcs,hb,he,hm,h1,hn5,fine,q⟩:=h;exact⟨by exact Np h1,rfl⟩
 refine og (ct:=fun _=>[]) (B.goodN N) (B.K▸Js _) (extra:=[.none]) (exv:=[.none]) (.cons rfl .nil) (fun s vals X hl=>?_) l.1 (vS h hk);refine uf vals (qy (hl.trans l.2)) fun a b=>?_;rw[B.K]at X⊢;exact Ea _ X
def bh.plainN(B:bh cc gl)(N:fS cc (fQ gl n))(F:Ko (KP cc.w.params) a xs ps ir)
  (hb:∀vals:List Vq,vals.length=args.length->V5 (aS (KP cc.w.params) a) ⟨vals,[]⟩=pure (xs.zip vals))(hk:1<=k)
  (vc:aA (Gm gl n) (fQ gl n) (fun _=>[]) [] (k-1) hn ir (ps.zip args) H (rQ Q) (fun _=>E)):cI cc k hn (.ref a) args H ad hd Q E:=
 og (ct:=fun _=>[]) (B.goodN N) (B.K▸F) (extra:=[]) (exv:=[]) .nil (fun s vals _ hl=>Yb (by rw[B.K,VW];exact hb vals hl)) hk (by rw[VW];exact vc)
def uL(B:bh cc gl)(N:fS cc (fQ gl n))(h:ku k hn args H Q E)(hk:k<=n+1):cI cc k hn (.ref 43) args H ad hd Q E:=by
 have l:1<=k/\args.length=5:=by obtain⟨ea,ga,cm,cn,cm',m,d,most,bound,T,P,news,dep,lev,ls,ll,rfl,M,hP,hea,hcm,hga,hcm',hcn,h1,hn5,hT,fine,q⟩:=h;exact⟨by exact Ar h1,rfl⟩
 refine B.plainN N (Jt _) (fun vals hl=>?_) l.1 (vT h hk);refine Ux vals (Qs (hl.trans l.2)) fun a b c d e=>?_;exact Eb _
def Eu(B:bh cc gl)(N:fS cc (fQ gl n))(h:yy k hn args H Q E)(hk:k<=n+1):cI cc k hn (.ref 329) args H ad hd Q E:=by
 have l:1<=k/\args.length=5:=by obtain⟨most,bound,T,P,news,rfl,hP,h1,hn5,hT,fine,q⟩:=h;exact⟨by exact pH h1,rfl⟩
 refine B.plainN N (EI _) (fun vals hl=>?_) l.1 (FM h hk);refine Ux vals (Qs (hl.trans l.2)) fun a b c d e=>?_;exact Bk _
end
section
noncomputable def Fb(K:Frag):Array Vq×Nat:=match K.lookup 301 with|some ⟨_,_,.seq vs n,_⟩=>(vs,n)|_=>(#[],0)
noncomputable def qx:List (List UInt8)->List Vq->Bool
 |[],l=>l.isEmpty
 |x::r,l=>match l with
  |[]=>false
  |v::l=>(match v with|.bytes b _=>b==x.toArray|_=>false)&&qx r l
def mK{ad:List Addr}:qx xs vs=true->aw (VR ad) (xs.map AV.bytes) vs:=by
 induction xs generalizing vs with
 |nil=>intro h;cases Z6.mp h;exact .nil
 |cons x r ih=>
  intro h;induction vs using Vr with
  |nil=>injection h
  |cons v l=>
   have h:=(VU _ _).mp h;refine .cons ?_ (ih h.2);have h:=h.1;induction v using YO with
   |bytes b t=>exact⟨t,by rw[beq_iff_eq.mp h]⟩
   |_=>injection h
def HN(P:VC):(KP P).lookup 301=some (W.listOf (Fb (KP P)).1 (Fb (KP P)).2):=by kernel_rfl
def u9(P:VC):qx piecesN (Fb (KP P)).1.toList=true:=by kernel_rfl
def Qp(P:VC):nsIn (KP P) mainGlobals (Vg "law")=some (some (.ref 348)):=by kernel_rfl
noncomputable def BU(K:Frag)(a:Addr):Addr:=match(aS K a).code with|.ref c=>c|_=>0
def JO(P:VC):codeHdIn (KP P) (BU (KP P) 315) 310=true:=by kernel_rfl
def JP(P:VC):codeHdIn (KP P) (BU (KP P) 322) 317=true:=by kernel_rfl
def EP(w:WellAll P h vs xs):Z3 R xs .int=true->∃ns:List Int,ns.length=xs.length/\∀ad,aw (VR ad) (ns.map AV.int) vs:=by
 induction xs generalizing vs with
 |nil=>intro _;cases w;exact i0 ([]) rfl (fun _=>.nil)
 |cons x xs ih=>
  intro hi;cases w with
  |cons a b=>
   unfold Z3 at hi;rw[VU]at hi;refine o1 (ih b hi.2) fun ns h1 h2=>?_;obtain⟨i,rfl⟩:=hasW_int hi.1;cases a with
   |int _ t=>exact i0 (i::ns) (congrArg (·+1) h1) (fun ad=>.cons ⟨t,rfl⟩ (h2 ad))
theorem rO:∀{l:List Addr},(TI.gone h l).objs.size=h.objs.size
 |[]=>rfl
 |a::l=>by
  show((TI.gone h l).update a _).objs.size=_;rw[←rO (h:=h) (l:=l)];simp[Heap.update]
end
end Mine
end
section
namespace Mine
open PySem PySem.W PyProof.Rows PySem.Calls
open Sem (wp)
section
variable{cc:CC}{c:FC}{A:VN}{Γ ΓN:cM}{ct:CT}{k:Nat}{loc loc1:aM}{sc:VZ}{H:AH}{ad:List Addr}{hd:Hid}{s:Vo}{h h':Heap}{fr:List (Addr×Obj)}{hn:Bool}{hd0:Option Addr}
variable{H1:AH}{ad1:List Addr}{hd1:Hid}{Q:QE}{QB:Bool->AH->Prop}{E:AH->Prop}{Qr:Vq->Vo->Prop}{QBr:Bool->Vo->Prop}{Er:d_}{R:Xu->Vo->Prop}
variable{D D1 D2 D3:ja}{DS DSa DSb:sx}
set_option backward.match.sparseCases true
def oX(cc:CC)(c:FC)(A:VN)(hd:Hid)(t:Sem Flow)(D:sx):Prop:=
 ∀(loc:aM) (H:AH) (ad:List Addr) (s:Vo) (Q:QS) (E:ES) (Qr:Flow->Vo->Prop) (Er:d_),
  FS cc c loc H ad hd s->D loc H Q E->Xv (Vt cc.prog cc.w) A c.env Er->KF cc c H ad hd Q Qr->KS cc c H ad hd E Er->bg (Vt cc.prog cc.w) A t Qr Er s
def wb(F:FS cc c loc H ad hd s)(ao:bx c A k)(tp:aR c A)(hs:oX cc c A hd (Wt body c.env) DS)(d:DS loc H (lR Q) (fun _=>E))(en:Ends cc c.hn c.fr H ad hd Q E R):
  bg (Vt cc.prog cc.w) A (Wt body c.env) (fun f s'=>R (.ok (.ret (match f with|.ret v=>v|_=>.none))) s')
   (fun e s'=>Vy (Vt cc.prog cc.w) A (Yz c.env e) (fun _ s''=>R (.error e) s'') (fun e' s''=>R (.error e') s'') s') s:=by
 refine hs _ _ _ _ _ _ _ (fun e s'=>Vy (Vt cc.prog cc.w) A (Yz c.env e) (fun _ s''=>R (.error e) s'') (fun e' s''=>R (.error e') s'') s') F d Zt (fun fl loc' H' ad' hd' s' f T' F' r' d'=>?_) (fun loc' H' ad' hd' s' ea T' F' fl d'=>?_)
 ·induction fl using yK.casesOn with
  |next=>subst r';exact en.ret .none _ _ _ _ _ T' F'.hr F'.oth rfl d'
  |ret v=>refine wV f r' fun x r=>?_;exact en.ret _ _ _ _ _ _ T' F'.hr F'.oth r d'
  |brk=>exact d'.elim
  |cont=>exact d'.elim
 ·unfold Yz;exact Vi (kg F' ao tp fl fun h' F2 fl2=>en.err _ _ _ _ _ T' F2.hr F2.oth fl2.out d')
def qa(O:aO cc){a:Addr}{o:Obj}{fd:FuncData}{body:List Stmt}{vals us:List Vq}{xs fn:List Str}{cl0:List Nat}{ps:List PK}{args:List AV}{D:Nat->sx}
  (C:g_ cc k hn hd0 A fr H ad hd s)(hk:1<=k)(ho:s.heap.get? a=some o)(hdat:o.data=.func fd)(hcode:s.heap.CodeRec fd.code fd.qualname)(hbody:fd.body=.stmts body)
  (hg:fd.globals=mainGlobals)(hb:fd.builtins=W4)(hbind:Xp s fd ⟨vals,[]⟩ (xs.zip us))(hown:(ak fd.scope.names).Nodup)
  (hps:∀L,aw (DR cc ⟨envC fd L a,ak fd.scope.names++fn,(VE (ak fd.scope.names).length).map (H.length+·)++cl0,fr,hn,hd0⟩ H.length) ps xs) (hpc:∀j,PK.c j∈ps->j<(ak fd.scope.names).length)
  (hr:aw (VR ad) args us)
  (hfn:∀(j:Nat)(x:Str),fn[j]?=some x->pos? x (ak fd.scope.names)=none/\∃a i,fd.closure.lookup x=some a/\cl0[j]?=some i/\ad[i]?=some a)
  (hs:∀L,bx ⟨envC fd L a,ak fd.scope.names++fn,(VE (ak fd.scope.names).length).map (H.length+·)++cl0,fr,hn,hd0⟩ (A.deeper (envC fd L a)) (k-1)->aR ⟨envC fd L a,ak fd.scope.names++fn,(VE (ak fd.scope.names).length).map (H.length+·)++cl0,fr,hn,hd0⟩ (A.deeper (envC fd L a))->oX cc ⟨envC fd L a,ak fd.scope.names++fn,(VE (ak fd.scope.names).length).map (H.length+·)++cl0,fr,hn,hd0⟩ (A.deeper (envC fd L a)) hd (Wt body (envC fd L a)) (D (k-1)))
  (d:cU H.length ps args [] (H++VJ (ak fd.scope.names).length (.cell none)) (fun loc H'=>bB H H'->D (k-1) loc H' (lR Q) (fun _=>E)))(en:Ends cc hn fr H ad hd Q E R)
  (hco:fd.scope.isCoroutine=false:=by rfl) (hgen:fd.scope.isGenerator=false:=by rfl) (hkind:fd.scope.kind=.function:=by rfl):
  bE (Vt cc.prog cc.w) A (.call (.ref a) ⟨vals,[]⟩) R s:=by
 refine eK (Xw (Xl _ _) C.room) ho hdat hco hgen hbody hcode (hbind _ _ _ _ ?_);simp only[Yi,YC,V0,if_false];refine Vi (wpAny_alloc ?_);refine Vi (wpAny_layCells _ (fun name kind cells=>by induction hkc:kind==YI using Vu<;>simp[hkc]) _ _ _ _ ?_);rw[show({s with heap:=s.heap.push {cls:=.type "frame",data:=.dict #[]}}:Vo).heap.objs.size=s.heap.objs.size+1 from WS ..];generalize hL:s.heap.objs.size=L;have hlen:=C.hr.len;have hkeep1:∀b ob,s.heap.get? b=some ob->(s.heap.push {cls:=.type "frame",data:=.dict #[]}).get? b=some ob:=fun b ob e=>Vx _ e;have R1:=(C.hr.grow hkeep1).cells fd.scope.names;rw[WS,hL]at R1;have hfresh:∀b ob,s.heap.get? b=some ob->b≠L:=fun b ob e=>hL▸WO (Wb e);have hown0:L∉tot cc fr hd ad:=fun m=>by
  refine o8 (C.hr.live m) fun ob e=>?_;exact hfresh _ _ e rfl
 have hown1:L∉tot cc fr hd (ad++(VE (ak fd.scope.names).length).map (L+1+·)):=fun m=>by
  rcases Vs.mp m with m|m
  ·rcases Vs.mp m with m|m
   ·exact hown0 (Vk _ m)
   ·refine o1 (Wj.mp m) fun i _ e=>?_;exact Ih e
  ·exact hown0 (Vh _ m)
 have hns:(YS (s.heap.push {cls:=.type "frame",data:=.dict #[]}) fd.scope.names).Ns L (fun _=>none):=by
  rw[←hL];exact(Heap.Ns.new s.heap (.type "frame")).keeps (pushCells_keeps _ _)
 have T1:Tr ad H hd (ad++(VE (ak fd.scope.names).length).map (L+1+·)) (H++VJ (ak fd.scope.names).length (.cell none)) hd:=⟨VA ..,.snoc _ _,.refl _⟩
 have F:FS cc ⟨envC fd L a,ak fd.scope.names++fn,(VE (ak fd.scope.names).length).map (H.length+·)++cl0,fr,hn,hd0⟩ [] (H++VJ (ak fd.scope.names).length (.cell none)) (ad++(VE (ak fd.scope.names).length).map (L+1+·)) hd
   {s with heap:=YS (s.heap.push {cls:=.type "frame",data:=.dict #[]}) fd.scope.names}:=by
  refine⟨(i0 _ hns (fun i v e=>by cases e)),R1,hown1,hL▸C.sz,fun j x hj hx=>?_,C.hdl.tr T1,⟨C.oth.gens,C.oth.drawn,C.oth.os⟩⟩;show∃a i,(ZN (L+1) fd.scope.names fd.closure).lookup x=some a/\_;rw[cY _ _ _ hown];by_cases hlt:j<(ak fd.scope.names).length
  ·rw[VF hlt]at hj;rw[pos?_of_get hown hj];refine i1 (L+1+j) (H.length+j) rfl ?_ ?_
   ·rw[VF (by rw[VI,WE];exact hlt)];simp[hlt]
   ·rw[Vm (by exact Ii hlen),show H.length+j-ad.length=j by exact Ij hlen];simp[hlt]
  ·rw[Vm (by exact ng hlt)]at hj;refine HT (hfn _ x hj) fun h1 a' i h2 h3 h4=>?_;rw[h1];refine i1 a' i h2 ?_ (aX T1.ad h4);rw[Vm (by rw[VI,WE];exact ng hlt),VI,WE];exact h3
 have eo:ay ⟨envC fd L a,ak fd.scope.names++fn,(VE (ak fd.scope.names).length).map (H.length+·)++cl0,fr,hn,hd0⟩:=⟨hkind,hg,hb⟩
 refine Vi (pM (c:=⟨envC fd L a,ak fd.scope.names++fn,(VE (ak fd.scope.names).length).map (H.length+·)++cl0,fr,hn,hd0⟩) O eo _ (fun _ _ _=>rfl) (hps L) args us [] _ _ _ _ F (hr.mono fun _ _ x=>x.mono T1.ad)
  (fun j hj=>(i4 none (by rw[Vm (by exact Ie),show H.length+j-H.length=j by exact Ik];simp[hpc j hj]))) d fun loc' H' s' T' F' d'=>Vp ?_)
 refine⟨O.rd.nolimit.keeps F'.hr.keep,Cj ?_⟩;refine o1 C.frames fun envs e1 e2=>?_;have T2:=T1.trans T';have ao:bx ⟨envC fd L a,ak fd.scope.names++fn,(VE (ak fd.scope.names).length).map (H.length+·)++cl0,fr,hn,hd0⟩ (A.deeper (envC fd L a)) (k-1):=by
  refine⟨?_,?_,(i0 (envC fd L a::envs) (by show A.frames.map _=_;rw[e1];rfl) (fun e he=>?_)),C.hnd,C.hn⟩
  ·have:=C.room;show A.depth+1+(k-1)<WC;exact Au this hk
  ·have:=C.units;show A.units+3+10*(k-1)<cLine;exact Av this hk
  ·rcases Vv.mp he with rfl|he
   ·exact uX (by show fd.scope.kind≠.module;rw[hkind];decide) _ rfl (.inl rfl)
   ·refine HT (e2 e he) fun k1 b ob k2 k3 k4=>?_;exact uX k1 b k2 (.inr ⟨ob,k3,k4⟩)
 have tp:aR ⟨envC fd L a,ak fd.scope.names++fn,(VE (ak fd.scope.names).length).map (H.length+·)++cl0,fr,hn,hd0⟩ (A.deeper (envC fd L a)):=⟨(i4 envs (by show A.frames.map _=_;rw[e1];rfl)),rfl⟩
 exact wb F' ao tp (hs L ao tp) (d' T2.H) ⟨fun v H'' ad'' hd'' s'' x T R o r q=>en.ret v H'' ad'' hd'' s'' x (T2.trans T) R o r q,fun H'' ad'' hd'' s'' ea T R o fl q=>en.err H'' ad'' hd'' s'' ea (T2.trans T) R o fl q⟩
set_option backward.match.sparseCases false
end
end Mine
end
section
namespace Mine
open PySem PySem.W PyProof.Rows PySem.Calls
section
variable{cc:CC}{gl:GL}{n k:Nat}{H:AH}{ad:List Addr}{hd:Hid}{hn:Bool}{Q:QE}{E:AH->Prop}{args:List AV}{fr:List (Addr×Obj)}{s:Vo}{ct:CT}{Γ ΓN:cM}{h:Heap}
def Qj(e:hd.code 1=some c'):∃o P x,hd.g=some (c',o,P,x):=by
 obtain⟨⟨a,o,P,x⟩,e1,e2⟩:=VK.mp (show hd.g.map (·.1)=some c' from e);subst e2;exact⟨o,P,x,e1⟩
def HR.codeHd(R:HR cc fr hd ad H h)(hg:hd.g=some (c',o,P,x)):CodeHd h c' P:=by
 refine U5 ((R.hok.g _ _ _ _ hg).2) fun vs file tf flags tg inF text tt r=>?_;exact⟨o,vs,file,tf,flags,tg,inF,text,tt,R.hid (c',o) (by unfold Hid.objs;simp[hg]),r⟩
noncomputable abbrev h9:List Str:=[Vg "begin",Vg "end"]
noncomputable abbrev cH:List Str:=[Vg "matcher",Vg "news"]
noncomputable def d9:NS:=(.seq (.ret (.call 36 (.cons (.cel 3) (.cons (.loc 34) .nil)))) (.a .skip))
def zh(P:VC):(aU (KP P) 1).body=pZ (aU (KP P) 2)::dO (aU (KP P) 1).body:=by kernel_rfl
def EM(P:VC):compNSs bC (h9++cH) 200 (aU (KP P) 1).scope (dO (aU (KP P) 1).body)=d9:=by kernel_rfl
def zi(P:VC):(aU (KP P) 1).scope.kind=.function:=by kernel_rfl
def Co(P:VC):ak (aU (KP P) 1).scope.names=h9:=by kernel_rfl
def zg(P:VC):V5 (fnX (aU (KP P) 1).name (aU (KP P) 1).qual (aU (KP P) 1).params (aU (KP P) 1).body (aU (KP P) 1).scope clo .none .none doc pm none cdv ctv) ⟨[a,b],[]⟩=pure [(Vg "begin",a),(Vg "end",b)]:=by kernel_rfl
def EL(P:VC)(hc:cc.cdat=aU (KP P)){hd0:Option Addr}:
  pB cc ⟨envC (fnX (aU (KP P) 1).name (aU (KP P) 1).qual (aU (KP P) 1).params (aU (KP P) 1).body (aU (KP P) 1).scope clo .none .none doc pm none cdv ctv) L a,h9++cH,cl,fr,hn,hd0⟩ [2,1,0] 2:=by
 constructor
 ·rw[hc];kernel_rfl
 ·rw[hc];kernel_rfl
 ·rw[hc];kernel_rfl
 ·rw[hc];kernel_rfl
 ·rw[hc];exact .cons ⟨rfl,.inr (by kernel_rfl)⟩ (.cons ⟨rfl,.inl (by kernel_rfl)⟩ (.cons ⟨rfl,.inl (by kernel_rfl)⟩ .nil))
 ·intro ads h;rw[hc]at h⊢;rw[TT];cases h with
  |cons h1 h2=>cases h2 with
   |cons h2 h3=>cases h3 with
    |cons h3 h4=>cases h4;exact UG h3 h2 h1
def Cp(G:pC cc Γ ΓN)(DO:ri cc){hd0:Option Addr}(hcd:hd.code 1=some c')
  (ao:bx ⟨env,cn,cl,fr,hn,hd0⟩ A k)(tp:aR ⟨env,cn,cl,fr,hn,hd0⟩ A)(eo:ay ⟨env,cn,cl,fr,hn,hd0⟩)(DS:pB cc ⟨env,cn,cl,fr,hn,hd0⟩ [2,1,0] 2)
  (e1:compNSs cc.T cn 200 env.scope rs=d9)(hx:cc.T.nm[34]?=some (cc.cdat 2).name)(hl:env.scope.names.lookup (cc.cdat 2).name=some .local)(hcode:env.code=.ref c'):
  oX cc ⟨env,cn,cl,fr,hn,hd0⟩ A hd (Wt (pZ (cc.cdat 2)::rs) env) (aA Γ ΓN dj cl k hn fq):=by
 have r:=(tv (ct:=dj) G 200).ss _ _ k env.scope rs ao eo tp (aN.refl _);rw[show(⟨env,cn,cl,fr,hn,hd0⟩:FC).cn=cn from rfl,e1]at r;intro loc H1 ad1 s1 Q1 E1 Qr Er F d po q e;refine U6 (Qj hcd) fun o P' x hg=>?_;have d':aA Γ ΓN dj cl k hn d9 (st 34 (.ref H1.length) loc) (H1++[.clos 2 (([2,1,0]:List Nat).map fun j=>cl.getD j 0)]) Q1 E1:=by
  have e0:fq=.seq (.a (.defc 34 2)) d9:=rfl;rw[e0]at d;exact d
 have w:Vy (Vt cc.prog cc.w) A (exec (pZ (cc.cdat 2)) env) (fun f s'=>f=.next/\bg (Vt cc.prog cc.w) A (Wt rs env) Qr Er s') Er s1:=by
  refine B8 (c:=⟨env,cn,cl,fr,hn,hd0⟩) (d:=2) (cE:=c') (P:=P') (ct:=[2,1,0]) (i:=34) G.O DO eo F DS hcode (F.hr.codeHd hg) (i5 o x hg) hx hl fun ad' hd' s' T F'=>⟨rfl,?_⟩
  exact r _ _ _ _ _ _ _ _ _ F' d' po (KF.tr q T) (KS.tr e T)
 refine jt (aT (bw w) (fun f s' h=>?_) fun _ _ h=>h);refine TF f h fun h=>?_;exact h
structure FV(cc:CC):Prop where
 own:ak (cc.cdat 1).scope.names=h9
 kind:(cc.cdat 1).scope.kind=.function
 co:(cc.cdat 1).scope.isCoroutine=false
 gen:(cc.cdat 1).scope.isGenerator=false
 free:(cc.cdat 1).free=cH.reverse
 lb:(cc.cdat 1).scope.names.lookup (Vg "begin")=some .cell
 le:(cc.cdat 1).scope.names.lookup (Vg "end")=some .cell
 body:∃rs,(cc.cdat 1).body=pZ (cc.cdat 2)::rs/\compNSs cc.T (h9++cH) 200 (cc.cdat 1).scope rs=d9
 bind:∀(a b:Vq)(clo:List (Str×Addr))(doc pm cdv ctv:Vq),V5 (fnX (cc.cdat 1).name (cc.cdat 1).qual (cc.cdat 1).params (cc.cdat 1).body (cc.cdat 1).scope clo .none .none doc pm none cdv ctv) ⟨[a,b],[]⟩=pure [(Vg "begin",a),(Vg "end",b)]
 ds:∀(fr:List (Addr×Obj))(hn:Bool)(L a:Addr)(cl:List Nat)(hd0:Option Addr)(clo:List (Str×Addr))(doc pm cdv ctv:Vq),
  pB cc ⟨envC (fnX (cc.cdat 1).name (cc.cdat 1).qual (cc.cdat 1).params (cc.cdat 1).body (cc.cdat 1).scope clo .none .none doc pm none cdv ctv) L a,h9++cH,cl,fr,hn,hd0⟩ [2,1,0] 2
 nm:cc.T.nm[34]?=some (cc.cdat 2).name
 lo:(cc.cdat 1).scope.names.lookup (cc.cdat 2).name=some .local
def Jv(P:VC):(aU (KP P) 1).body=pZ (aU (KP P) 2)::dO (aU (KP P) 1).body:=by kernel_rfl
def bh.giveD(B:bh cc gl):FV cc:=by
 have hc:=B.cdP;constructor
 ·rw[hc];exact Co _
 ·rw[hc];exact zi _
 ·rw[hc];kernel_rfl
 ·rw[hc];kernel_rfl
 ·rw[hc];kernel_rfl
 ·rw[hc];kernel_rfl
 ·rw[hc];kernel_rfl
 ·rw[hc,B.T];exact i0 _ (zh _) (EM _)
 ·intro a b clo doc pm cdv ctv;rw[hc];exact zg _
 ·intro fr hn L a cl hd0 clo doc pm cdv ctv;have:=EL (fr:=fr) (hn:=hn) (cc:=cc) cc.w.params hc (L:=L) (a:=a) (cl:=cl) (hd0:=hd0) (clo:=clo) (doc:=doc) (pm:=pm) (cdv:=cdv) (ctv:=ctv);rw[←hc]at this;exact this
 ·rw[hc,B.T];kernel_rfl
 ·rw[hc];kernel_rfl
def yW(G:pC cc Γ ΓN)(DO:ri cc)(D1:FV cc){i:Nat}(hi:H[i]?=some (.clos 1 cl))(ha:ad[i]?=some a)(hl:args.length=2)(hk:1<=k)
  (vc:cU H.length [.c 0,.c 1] args [] (H++VJ 2 (.cell none)) (fun loc H'=>bB H H'->aA Γ ΓN dj ([H.length+0,H.length+1]++cl.reverse) (k-1) hn fq loc H' (lR Q) (fun _=>E))):cI cc k hn (.ref a) args H ad hd Q E:=by
 intro hd0 A fr s vals R C hr en;refine Uw (C.hr.obj i _ hi) fun a' o h1 h2 ads c' doc pm ctv h3 h4 h5 h6=>?_;rw[ha]at h1;(injection h1 with h1;subst h1);subst h6;have ow:=D1.own;obtain⟨va,vb,rfl⟩:=qy (hr.length.symm.trans hl);have hcr:=C.hr.codeRec h3;have hbd:=D1.bind va vb ((cc.cdat 1).free.zip ads) doc pm (.ref c') ctv;have hds:=fun L=>D1.ds fr hn L a ([H.length+0,H.length+1]++cl.reverse) hd0 ((cc.cdat 1).free.zip ads) doc pm (.ref c') ctv;obtain⟨rs,hb1,hb2⟩:=D1.body;have hcl:∀(j:Nat) (x:Str),cH[j]?=some x->∃a i,((cc.cdat 1).free.zip ads).lookup x=some a/\cl.reverse[j]?=some i/\ad[i]?=some a:=fun j x e=>oh (by rw[D1.free];decide+kernel) h4 h5 (by rw[D1.free,List.reverse_reverse];exact e);refine qa G.O C hk h2 rfl hcr rfl rfl rfl (xs:=[Vg "begin",Vg "end"]) (us:=[va,vb]) (ps:=[.c 0,.c 1]) (Yb hbd) ?_ (fun L=>?_) ?_ hr (fn:=cH) (cl0:=cl.reverse) (fun j x e=>⟨?_,hcl j x e⟩) (fun L=>?_) ?_ en D1.co D1.gen D1.kind (D:=fun k'=>aA Γ ΓN dj ([H.length+0,H.length+1]++cl.reverse) k' hn fq)
 ·show(ak (cc.cdat 1).scope.names).Nodup;rw[ow];decide+kernel
 ·refine .cons (uX D1.lb 0 ?_ ?_) (.cons (uX D1.le 1 ?_ ?_) .nil)
  ·show(ak (cc.cdat 1).scope.names++cH)[0]?=_;rw[ow];rfl
  ·show((VE (ak (cc.cdat 1).scope.names).length).map (H.length+·)++cl.reverse)[0]?=_;rw[ow];rfl
  ·show(ak (cc.cdat 1).scope.names++cH)[1]?=_;rw[ow];rfl
  ·show((VE (ak (cc.cdat 1).scope.names).length).map (H.length+·)++cl.reverse)[1]?=_;rw[ow];rfl
 ·intro j hj;show j<(ak (cc.cdat 1).scope.names).length;rw[ow];simp at hj;show j<2;exact GO hj
 ·show pos? x (ak (cc.cdat 1).scope.names)=none;rw[ow]
  match j,e with
  |0,e=>(injection e with e;subst e);decide+kernel
  |1,e=>(injection e with e;subst e);decide+kernel
 ·show _->_->oX cc ⟨_,ak (cc.cdat 1).scope.names++cH,(VE (ak (cc.cdat 1).scope.names).length).map (H.length+·)++cl.reverse,fr,hn,hd0⟩ _ _ _ _;rw[ow];have e0:(VE h9.length).map (H.length+·)++cl.reverse=[H.length+0,H.length+1]++cl.reverse:=rfl;rw[e0];intro ao tp;have:=Cp G DO (rs:=rs) h3 ao tp ⟨D1.kind,rfl,rfl⟩ (hds L) hb2 D1.nm D1.lo rfl;rw[←hb1]at this;exact this
 ·show cU H.length _ _ _ (H++VJ (ak (cc.cdat 1).scope.names).length (.cell none)) _;rw[ow];exact vc
end
section
variable{cc:CC}{gl:GL}
def En{n k:Nat}{H:AH}{ad:List Addr}{hd:Hid}{hn:Bool}{Q:QE}{E:AH->Prop}{args:List AV}(B:bh cc gl)(N:fS cc (fQ gl n)){i:Nat}{cl:List Nat}{a:Addr}(hi:H[i]?=some (.clos 1 cl))(ha:ad[i]?=some a)(h:yt cl k hn args H Q E)(hk:k<=n+1):
  cI cc k hn (.ref a) args H ad hd Q E:=by
 have l:1<=k/\args.length=2:=by obtain⟨cn,cm,m,d,b,e,T,P,dp,ls,ll,cs,news,rfl,rfl,M,hcs,hn',hm',h1,hn5,fine,q⟩:=h;exact⟨by exact Nr h1,rfl⟩
 exact yW (B.goodN N) B.D B.giveD hi ha l.2 l.1 (FH h hk)
theorem Dq(B:bh cc gl):∀n,fS cc (fQ gl n)
 |0=>by
  refine⟨fun f k hn args H ad hd Q E ⟨hk,h⟩=>?_,fun d cl k hn args H ad hd Q E i a hi ha ⟨hk,h⟩=>?_⟩
  ·unfold yH at h
   split at h
   ·obtain⟨hc,cm,ce,cb,m,d,b,e,T,P,dp,ls,ll,cs,news,rfl,hhc,M,hcs,hb,he,hm,h1,hn5,fine,q⟩:=h;omega
   ·obtain⟨ea,ga,cm,cn,cm',m,d,most,bound,T,P,news,dep,lev,ls,ll,rfl,M,hP,hea,hcm,hga,hcm',hcn,h1,hn5,hT,fine,q⟩:=h;omega
   ·obtain⟨most,bound,T,P,news,rfl,hP,h1,hn5,hT,fine,q⟩:=h;omega
   ·exact h.elim
  ·unfold t7 at h
   split at h
   ·obtain⟨cn,cm,m,d,b,e,T,P,dp,ls,ll,cs,news,rfl,rfl,M,hcs,hn',hm',h1,hn5,fine,q⟩:=h;omega
   ·exact h.elim
 |n+1=>by
  have N:=Dq B n;refine⟨fun f k hn args H ad hd Q E ⟨hk,h⟩=>?_,fun d cl k hn args H ad hd Q E i a hi ha ⟨hk,h⟩=>?_⟩
  ·unfold yH at h
   split at h
   ·exact uK B N h hk
   ·exact uL B N h hk
   ·exact Eu B N h hk
   ·exact h.elim
  ·unfold t7 at h
   split at h
   ·exact En B N hi ha h hk
   ·exact h.elim
end
section
variable{cc:CC}{c:FC}{A:VN}{gl:GL}{n k:Nat}{H:AH}{ad:List Addr}{hd:Hid}{hn:Bool}{Q:QE}{E:AH->Prop}{args:List AV}{fr:List (Addr×Obj)}{s:Vo}{ct:CT}{Γ ΓN:cM}{h:Heap}
def uG(G:pC cc Γ ΓN){a:Addr}{own xs:List Str}{ps:List PK}(F:J' cc.K a own xs ps){D:Nat->sx}
  (hbind:∀vals:List Vq,vals.length=args.length->V5 (aS cc.K a) ⟨vals,[]⟩=pure (xs.zip vals))(hk:1<=k)
  (hs:∀(L:Addr)(A:VN)(fr:List (Addr×Obj))(hd0:Option Addr),bx ⟨envC (aS cc.K a) L a,own,(VE own.length).map (H.length+·),fr,hn,hd0⟩ A (k-1)->ay ⟨envC (aS cc.K a) L a,own,(VE own.length).map (H.length+·),fr,hn,hd0⟩->
   aR ⟨envC (aS cc.K a) L a,own,(VE own.length).map (H.length+·),fr,hn,hd0⟩ A->
   bA cc ⟨envC (aS cc.K a) L a,own,(VE own.length).map (H.length+·),fr,hn,hd0⟩ A (Wt (aW (aS cc.K a).body) (envC (aS cc.K a) L a)) (D (k-1)))
  (d:cU H.length ps args [] (H++VJ own.length (.cell none)) (fun loc H'=>bB H H'->D (k-1) loc H' (lR Q) (fun _=>E))):cI cc k hn (.ref a) args H ad hd Q E:=by
 intro hd0 A fr s vals R C hr en;have K1:cc.K.In s.heap:=G.O.inG.keeps C.hr.keep;have ow:=F.ow;subst ow;refine sQ G.O C hk (K1 _ _ F.obj) rfl (eM K1 F.code) F.body F.g F.b (Yb (hbind vals hr.length.symm)) F.nod (fun L=>?_) F.pc hr (fn:=[]) (cl0:=[]) (fun j x e=>by injection e) (fun L=>?_) d en F.co F.gen F.kind
 ·refine F.pk.mono fun p x hp=>?_;induction p using PK.casesOn with
  |l i=>exact⟨by rw[G.T];exact hp.1,hp.2⟩
  |c j=>
   refine uX hp.2 j ?_ ?_
   ·rw[VW];exact hp.1
   ·have:=(Vn.mp hp.1).1;simp[this]
 ·rw[VW,VW];intro ao tp;exact hs L _ fr hd0 ao ⟨F.kind,F.g,F.b⟩ tp
def I3(P:VC):J' (KP P) 348 [Vg "bag",Vg "past"] [Vg "script"] [.l 47]where
 obj:=by kernel_rfl
 code:=by kernel_rfl
 body:=by kernel_rfl
 g:=by kernel_rfl
 b:=by kernel_rfl
 ow:=by kernel_rfl
 nod:=by decide+kernel
 pk:=.cons ⟨rfl,by kernel_rfl⟩ .nil
 pc:=fun j hj=>by simp at hj
 co:=by kernel_rfl
 gen:=by kernel_rfl
 kind:=by kernel_rfl
def JH(P:VC):compNSs bC [Vg "bag",Vg "past"] 200 (aS (KP P) 348).scope (aW (aS (KP P) 348).body)=mS:=by kernel_rfl
def Bn(P:VC):V5 (aS (KP P) 348) ⟨[a],[]⟩=pure [(Vg "script",a)]:=by kernel_rfl
def IH(B:bh cc gl){xs:List Int}(hk:k<=n+1)(h1:101<=k)(gsa:gl sa=some (xs.map AV.int))(hx:xs.length<=63)(g301:gl 301=some (piecesN.map AV.bytes))(q:∀H',Q (.bool true) H'):
  cI cc k true (.ref 348) [.prog sa] H ad hd Q E:=by
 have G:=B.goodN (Dq B n);refine uG G (B.K▸I3 _) (D:=fun k'=>aA (Gm gl n) (fQ gl n) (fun _=>[]) [H.length+0,H.length+1] k' true mS) (fun vals hl=>?_) (Pj h1) (fun L A fr hd0 ao eo tp=>?_) ?_
 ·refine cX vals (nO hl) fun a=>?_;rw[B.K];exact Bn _
 ·have e0:(VE [Vg "bag",Vg "past"].length).map (H.length+·)=[H.length+0,H.length+1]:=rfl;rw[e0]at ao eo tp⊢;have:=(tv (ct:=fun _=>[]) G 200).ss _ _ (k-1) (aS cc.K 348).scope (aW (aS cc.K 348).body) ao eo tp (aN.refl _);have e1:compNSs cc.T [Vg "bag",Vg "past"] 200 (aS cc.K 348).scope (aW (aS cc.K 348).body)=mS:=by rw[G.T,B.K];exact JH _
  rw[e1]at this;exact this
 ·show _->aA _ _ _ _ _ _ _ [(47,.prog sa)] _ (lR Q) _;intro _;refine U9 (n:=n) (k:=k-1) (aZ hk) (Pk h1) ?_ ?_ (by exact Pl) gsa hx g301 q
  ·rw[Vm (by exact Aq)];simp
  ·rw[Vm (by exact lg)];simp
end
section
def D4(hpre:qT.claim.pre args=true):∃xs,args=[.list xs]/\Z3 [] xs .int=true/\xs.length<=63:=by
 have hsh:=(pre_splitW hpre).1;have hcond:=(pre_splitW hpre).2;obtain⟨d,r,rfl,h1,h2⟩:=hasAllW_cons (show WShape.hasAll [] args [.list .int]=true from hsh);have:=hasAllW_nil h2;subst this;obtain⟨xs,rfl,h3⟩:=hasW_list h1;refine i8 xs rfl h3 ?_;have h4:=(holds_andW (show(WTm.and (.not (.lt (.lit (.int 63)) (.len (.arg 0)))) (.lit (.bool true))).holds [] {args:=[.list xs]}=true from hcond)).1;refine Decidable.byContradiction fun hc=>?_;have hd:decide ((63:Int)<(xs.length:Int))=true:=decide_eq_true (Pm hc);simp[WTm.holds,WTm.value,less?,Num.less?,hd]at h4
def JD(hT:∀P∈[317,310],s.heap.get? P=some (Wz #[])):
  HR (sM prog w s p loose mean mg mb) [] {} [] [] s.heap where
 keep:=fun b o e=>(TI.gone_some e).2
 len:=rfl
 nodup:=by
  show [310,317].Nodup
  decide
 new:=fun a ha=>by
  have:a∈[310,317]:=ha;exact TI.gone_none this
 obj:=fun i ao e=>by injection e
 frm:=fun p hp=>by cases hp
 hid:=fun p hp=>by
  have:p∈[((310:Addr),Wz #[]),(317,Wz #[])]:=hp;simp only[Vv,WD,or_false]at this;rcases this with rfl|rfl
  ·exact hT 310 (by simp)
  ·exact hT 317 (by simp)
 hok:=⟨(fun a o e=>nomatch e),(fun a o P x e=>nomatch e),(fun a o P b ob e=>nomatch e)⟩
def JY{ad:List Addr}
  (X:(KP w.params).In s.heap) (hT:∀P∈[317,310],s.heap.get? P=some (Wz #[]))(R:HR (sM prog w s p loose mean mg mb) [] hd ad H h):OldK s.heap h:=by
 have key:∀b o,s.heap.get? b=some o->asItWas s.heap h b o/\∃o',h.get? b=some o':=fun b o e=>by
  by_cases hb:b∈[310,317]
  ·have tab:∀c,CodeHd s.heap c b->s.heap.get? b=some (Wz #[])->∀ps,h.get? b=some (Wz ps)->asItWas s.heap h b o/\∃o',h.get? b=some o':=fun c hc ht ps hp=>by
    rw[e]at ht;(injection ht with ht;subst ht);refine U7 hc fun oc vs file tf flags tg inF text tt h1 h2 h3 h4 _=>?_;exact i9 (.inr (.inl ⟨⟨c,oc,vs,h1,h2,h3,h4⟩,rfl,#[],ps,rfl,by rw[hp,Array.empty_append]⟩)) _ hp
   simp only[Vv,WD,or_false]at hb;rcases hb with rfl|rfl
   ·exact tab _ (codeHd_of_K X (JO _)) (hT 310 (by simp)) _ (R.hid _ (Vl ..))
   ·exact tab _ (codeHd_of_K X (JP _)) (hT 317 (by simp)) _ (R.hid _ (Vj _ (Vl ..)))
  ·have:=R.keep b o ((XY hb).trans e);exact i9 (.inl this) o this
 exact⟨fun b o e=>(key b o e).1,fun b o e=>(key b o e).2⟩
set_option tactic.hygienic true in
def law_walk(hname:d.name=Vg "law"):
  v5 q loose XP (kmHook (fun P=>KP P) as e [317,310]).says qT d kwd fun f vs=>W6 f vs:=by
 intro w s₀ s₁ mg mb G Y a o pm cd doc dV kV ho hdt hcd hD hmg hg args vals as hpre hlay hrd hwl hlo;have KX:(KP w.params).In s₁.heap:=km_in_of Y;have hT:=km_tabs_of Y;have T:=Ground.T G;have TR:=topRead_of T;rw[hname]at hmg;have ha:a=348:=by
  have:=mg_of KX T.g (Qp w.params);rw[hmg]at this;cases this;rfl
 subst ha;obtain⟨xs,rfl,hi,hxs⟩:=D4 hpre;cases hwl with
 |cons hw hr=>
 cases hr;cases hw with
 |list hget hall=>
 rename_i al vs;obtain⟨ns,n1,n2⟩:=EP hall hi;have hal:al∉ [310,317]:=fun hm=>by
  have:s₁.heap.get? al=some (Wz #[]):=hT al (by
   simp only[Vv,WD,or_false]at hm⊢;exact hm.symm)
  rw[hget]at this;cases this
 have h301:al≠301:=fun z=>by
  subst z;have h1:=KX _ _ (HN w.params);rw[hget]at h1;have h2:vs=(Fb (KP w.params)).1.toList:=by
   injection h1 with h1;injection h1 with _ _ h3
   injection h3 with h3;rw[←h3]
  have h4:=mK (ad:=[]) (u9 w.params);rw[←h2]at h4;refine o1 (h4.get (i:=0) (a:=.bytes [97]) rfl) fun b b1 b2=>?_;have hl:=(n2 []).length;have hv:=(Vn.mp b1).1;rw[VI]at hl;refine o1 ((n2 []).get (i:=0) (a:=.int ns[0]) (by rw[Ww,Vw (by exact Pn hv hl)];rfl)) fun b' c1 c2=>?_;rw[b1]at c1;(injection c1 with c1;subst c1);refine o8 b2 fun t1 d1=>?_;refine o8 c2 fun t2 d2=>?_;rw[d1]at d2;cases d2
 let cc:=sM qT.prog w s₁ q (looseW q loose) (YL s₀.heap) mg mb
 let gl:GL:=fun b=>if b=301 then some (piecesN.map AV.bytes)else if b=al then some (ns.map AV.int)else none
 have O:aO cc:=Ei KX TR;have B:bh cc gl:={
  K:=rfl
  O:=O
  LO:=CF KX TR
  MO:=E4
  D:=B7 T hT
  T:=rfl
  cd:=rfl
  tE:=rfl
  tG:=rfl
  gl:=fun b ys hy=>by
   dsimp only[gl]at hy
   split at hy
   ·rename_i hb;subst hb;(injection hy with hy;subst hy);exact i2 _ _ ((XY (by decide)).trans (KX _ _ (HN _))) (fun ad=>mK (u9 _))
   ·split at hy
    ·rename_i hb;subst hb;(injection hy with hy;subst hy);exact i2 vs.toArray 0 ((XY hal).trans hget) (fun ad=>by rw[List.toList_toArray];exact n2 ad)
    ·cases hy}
 have C:=IH (n:=150) (k:=150) (H:=[]) (ad:=[]) (hd:={}) (Q:=fun v _=>v=.bool true) (E:=fun _=>False) B (sa:=al) (xs:=ns) Po Pp (by simp[gl,h301]) (Pq n1 hxs) (by simp[gl]) fun _=>rfl;refine rz (C none callerA [] s₁ [.ref al] _ ?_ (.cons rfl .nil) ?_)
 ·refine⟨by decide+kernel,by decide+kernel,(i0 ([]) rfl (fun e he=>nomatch he)),rfl,fun _=>rfl,JD hT,(fun _ z=>nomatch z),⟨rfl,rfl,rfl⟩,?_⟩;show(TI.gone s₁.heap [310,317]).objs.size<=s₁.heap.objs.size;rw[rO];exact VB _
 ·refine⟨fun v H' ad' hd' s' x T' R' o' r' q'=>?_,fun H' ad' hd' s' ea T' R' o' fl z=>z.elim⟩;subst q';subst r';refine⟨.inl ⟨_,_,_,rfl,raisesW_false (fun ct hc=>nomatch hc),.bool true,?_,fun _=>⟨.nil,fun _ h=>nomatch h⟩⟩,JY KX hT R',o'.os,?_⟩
  ·have hv:(WTm.eq .res (.lit (.bool true))).value [] {args:=[.list xs],res:=some (.bool true),after:=[.list xs]}=some (.bool true):=by
    simp[WTm.value,same]
   exact postW_of (X:=true) rfl hv rfl
  ·refine .of_eq (o'.gens.trans ?_);exact hg
end
end Mine
end
set_option maxRecDepth 100000 in
theorem PySem.Challenge.cw_sa0470_01_holds : PySem.Challenge.rw_sa0470_01.Holds := by
 exact Mine.headOk fun _ _ h=>Mine.law_walk h
