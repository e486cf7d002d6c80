import PyProof.Rows.All
import Wide.All
import OpenK.AllK
import Wide.FinOn
import Lean
import PySem.Challenge.RW_nz0596_01
set_option Elab.async false
set_option autoImplicit false
set_option linter.all false
set_option maxRecDepth 100000
set_option maxHeartbeats 0
set_option bootstrap.genMatcherCode false
set_option genInjectivity false
set_option genSizeOf false
set_option tactic.hygienic false
set_option backward.match.sparseCases false
open Array renaming mk->nq,length_toList->d6,mem_toList_iff->nv,isEmpty_iff->ny,toList_append->qm,getElem?_toList->tP,toList_push->zl
open Bool renaming and_eq_true->cK,eq_iff_iff->tQ,and_true->qo,and_false->tR,not_not->nC,or_false->nH,or_true->tS,false_eq_true->zm,or_eq_true_iff->ly,and_eq_true_iff->dK,not_eq_true'->iy,eq_false_or_eq_true->zo
open Char renaming toNat->lz
open Eq renaming symm->iL,refl->jN
open False renaming elim->eY
open ForInStep renaming yield->nJ
open Iff renaming of_eq->lA
open Int renaming ofNat->ab,negSucc->d7,add->aS,sub->bP,toNat->dz,fdiv->lB,fmod->bw,negSucc_eq->lC,ofNat_lt->gR,negSucc_lt_zero->iM,not_lt->gS,natCast_nonneg->b9,lt_of_lt_of_le->qp,ofNat_le->gT,lt_of_le_of_lt->tU,toNat_natCast->gU,ofNat_sub->tV,toNat_lt->tW,eq_ofNat_of_zero_le->fX,add_zero->tX,fmod_eq_emod_of_nonneg->nK,emod_eq_of_lt->tZ,zero_add->t5,fmod_nonneg_of_pos->nL,fmod_lt_of_pos->nP
open List renaming cons->cf,mem_flatMap->fY,mem_of_getElem?->jv,mem_cons_self->aW,mem_cons_of_mem->aP,mem_singleton->aV,mem_cons->aR,getElem_of_mem->jP,getElem?_eq_getElem->eZ,mem_append_right->bD,mem_append->bp,mem_append_left->a0,nodup_append->iN,getElem?_cons_zero->t6,append_assoc->bH,getElem?_append_left->lD,getElem?_eq_some_iff->cA,casesOn->bE,append_nil->cM,range->cy,all_cons->iO,length_cons->ey,length_append->dA,take_zero->jQ,drop_take->qq,take_length->lE,drop_of_length_le->nQ,length_take_le'->zp,length_map->bx,length_range->nU,length_drop->lF,length_take->gp,reverse_cons->iz,map_cons->dB,map_nil->nW,forIn_cons->nX,range'->e6,range'_succ->lG,drop_eq_getElem_cons->lH,drop_zero->t7,flatMap_cons->lI,length->nY,map_map->fM,reverse_append->qr,reverse_reverse->qt,mem_map->dC,lookup_cons->jR,find?_cons->qx,all_eq_true->c9,not_mem_nil->fw,replicate->gV,replicate_succ->zq,nodup_nil->jw,nodup_cons->gW,mem_map_of_mem->t8,mem_of_find?_eq_some->zt,any_eq_true->lJ,map_append->gq,length_eq_zero_iff->zv,range_eq_range'->t9,cons_append->jx,length_nil->qy,take_append_drop->t_,take_of_length_le->nZ,zip_cons_cons->zx,filterMap->ua,length_reverse->zy,lookup_eq_none_iff->zB,map->qA,isEmpty_iff->qB,mem_of_mem_take->ub,getElem?_take_of_lt->qC,map_inj_left->iA,getElem?_eq_none_iff->iP,drop_eq_nil_of_le->zC,length_pos_iff->zD,drop_left->iQ,getElem?_cons_succ->uc,take_add_one->n4,getElem?_map->eI,getElem?_set_ne->ue,singleton_append->zE,set_set->qD,mem_or_eq_of_mem_set->zF,getElem?_zipIdx->lK,getElem?_append_right->jU,getElem?_range->uf,getElem?_eq_none->zG,length_set->ug,length_replicate->zH,getD_eq_getElem?_getD->zI
open List.cons renaming injEq->zJ
open Nat renaming blt->a9,ble->bB,beq->aC,succ->aZ,sub->lL,land->lM,div->n5,blt_eq->cF,casesOn->dM,ble_eq->ez,not_lt->iB,ne_of_beq_eq_false->zK,le_trans->bb,lt_of_succ_lt_succ->jy,eq_of_beq_eq_true->eJ,add_assoc->jz,add_comm->uh,lt_of_le_of_lt->dR,le_add_right->iR,add_le_add_left->n6,lt_irrefl->jW,not_lt_zero->eA,ne_of_gt->uj,min_eq_left->qE,le_add_left->bW,pow_succ->um,pow_le_pow_right->zL,le_of_lt->jX,beq_refl->jY,le_refl->bT,succ_pos->lN,add_right_comm->lO,zero_add->d8,le_succ->fZ,zero_le->fN,lt_or_ge->uo,le_antisymm->qF,le_of_succ_le_succ->zM,ne_of_lt->qG,noConfusion->gr,not_succ_le_zero->zN,succ_add->uq,le_succ_of_le->ur,lt_succ_self->jA,le_of_eq->lP,le_of_ble_eq_true->eB,add_sub_cancel_left->n7,lt_add_right->qH,ble_eq_true_of_le->zO
open Nat.succ renaming inj->fO
open Ne renaming symm->jC
open Option renaming map_eq_some_iff->zP,isSome_iff_exists->uu,isNone_iff_eq_none->uw
open Option.some renaming injEq->ux,inj->iS
open Or renaming elim->gu
open PUnit renaming unit->uy
open Prod renaming snd->iC
open Prod.mk renaming inj->eC
open PyProof.Rows renaming Subscript_->lQ
open PySem renaming Value->aa,Params->cg,DictEntry->cG,World->aY,OsState->b_,Shared->aj,Heap->ay,Addr->ag,Around->aM,wpAny_bind->ax,wpAny_of_eq->qI,wpAny_pure->aX,concat_meets->qJ,noFill_tuple_add->uz,seq_tuple_add->uA,typeIs_str->jZ,getMethod_builtin->qK,wpAny_list_append_plain->zQ,call_meetsIn->qL,call_meets->lR,wpAny_mono->aA,wpAny_truthy_bool->iT,wpAny_specialOf->uB,wpAny_holding->eD,wpAny_Constant_int->uC,wpAny_standAt->e7,wpAny_call->n8,codeAny_mono->j1,wpAny_dictEntries->uD,merged_length_le->qM,sizeLine_eq->qN,merged_nil_of_nodup->uE,wpAny_execs_nil->qO,wpAny_execs_cons->qP,wpAny_pyIter_list->uF,wpAny_pyIter_enum->uG,wpAny_comprehension_free->uH
open PySem.Builtin renaming bitNot->iD
open PySem.Builtin.Range renaming rangePlace?->uI,rangeSize->n9
open PySem.Builtin.Str renaming strSliceIndices->zR
open PySem.F renaming slot_range_contains->zS,entry_range_contains->zT,args_range_contains_2->zU,slot_list_getitem->uJ,slot_str_getitem->uK,slot_str_split->qQ,entry_str_split->uL,args_str_split_2->uM
open PySem.Heap renaming get?_push_of_some->n_,lt_size->iE,get?_push_size->bX,SameBut->jD,get?_update_self->uN,ExtBut->oa
open PySem.Heap.DictOf renaming new->uO
open PySem.Heap.SameBut renaming update->uP,refl->zV
open PySem.NameKind renaming cell->oh
open PySem.Obj renaming isFreed_of_dict->zW,data_mapDictKeys->zX
open PySem.PyData renaming keyHash->oi
open PySem.ScopeKind renaming function->zY
open PySem.Txt renaming split->qR
open PySem.W renaming boot_heap->kG,boot_drawn->qS,piece_app->eF,segRun_of->d9,look_both->j2,looks_pair->iF
open PySem.W.WShape renaming hasItems->uQ,hasAll->uR
open PySem PySem.W PySem.Calls PyProof PyProof.Rows
namespace MH.Internal
noncomputable abbrev P0:Program:=PySem.Challenge.pw_nz0596_01
noncomputable abbrev s(x:String):Str:=Str.ofString x
noncomputable abbrev vN:aa:=.none
noncomputable abbrev vT:aa:=.bool true
noncomputable abbrev vF:aa:=.bool false
noncomputable abbrev vi(i:Nat):aa:=.int (ab i) 0
noncomputable abbrev r(a:Nat):aa:=.ref a
noncomputable abbrev S(x:String)(a:Nat):aa:=.str (s x) a
noncomputable abbrev tT:aa:=.type "tuple"
noncomputable abbrev tF:aa:=.type "function"
noncomputable abbrev tC:aa:=.type "code"
noncomputable abbrev tY:aa:=.type "type"
noncomputable abbrev tO:aa:=.type "object"
noncomputable abbrev an:Option aa:=some (.ref 6)
noncomputable def nth:List Stmt->Nat->Stmt
 | [],_=>.Pass ⟨0,0,0,0⟩
 |x::_,0=>x
 |_::l,n+1=>nth l n
noncomputable def drp{H:Type}:Nat->List H->List H
 |0,l=>l
 |n+1,_::l=>drp n l
 |_,[] =>[]
noncomputable def VJ{H:Type}:Nat->List H->List H
 |0,_=>[]
 |n+1,x::l=>x::VJ n l
 |_,[] =>[]
noncomputable def eo{H:Type}:Bool->List H->List H
 |_,[] =>[]
 |true,x::l=>x::eo false l
 |false,_::l=>eo true l
noncomputable def bt:Nat->List Obj->BT
 |_,[] =>.nil
 |0,_=>.nil
 |n+1,o::l=>.node o (bt n (eo true l)) (bt n (eo false l))
noncomputable def fArgs:Stmt->Arguments|.FunctionDef _ a .. =>a|_=>⟨[],[],none,[],[],none,[]⟩
noncomputable def fBody:Stmt->List Stmt|.FunctionDef _ _ b .. =>b|_=>[]
noncomputable def fScope:Stmt->Scope|.FunctionDef _ _ _ _ _ _ sc .. =>sc|_=>⟨.module,[],false,false,[]⟩
noncomputable def Pr:Stmt->List Stmt|.ClassDef _ _ _ b .. =>b|_=>[]
noncomputable def st(i:Nat):Stmt:=nth P0.main.body i
noncomputable def mt(i j:Nat):Stmt:=nth (Pr (st i)) j
noncomputable def sl(i n:Nat):List Stmt:=VJ n (drp i P0.main.body)
noncomputable abbrev de(P:cg)(x:String)(t:Nat)(v:aa):cG:=⟨oi P (s x),.str (s x) t,v⟩
noncomputable abbrev fd(z:Stmt)(nm qn:Str)(g:Nat)(d kd doc pm cd:aa)(b:Nat):FuncData:=⟨nm,qn,fArgs z,.stmts (fBody z),fScope z,g,[],d,kd,doc,pm,none,cd,.none,b⟩
noncomputable abbrev fdc(z:Stmt)(nm qn:Str)(g:Nat)(cl:List (Str×Nat))(d kd doc pm cd ct:aa)(b:Nat):FuncData:=⟨nm,qn,fArgs z,.stmts (fBody z),fScope z,g,cl,d,kd,doc,pm,none,cd,ct,b⟩
noncomputable def lf:Life:={}
noncomputable def env:Env:={scope:=P0.main.scope,locals:=mainNs,globals:=mainNs,cells:=[],code:=.ref 13,frame:=some 14}
noncomputable def cE:Code:=.body (behindTheImports P0) env
noncomputable abbrev BB:List Frame:=[topFrame ⟨0,0,0,0⟩]
noncomputable abbrev tE:aa:=.type "Exception"
noncomputable abbrev Rec:=Stmt×Str×Nat×Nat
noncomputable def LU:Stmt->Str|.FunctionDef n .. =>n|.ClassDef n .. =>n|_=>default
noncomputable def Wh:Stmt->Nat|.FunctionDef _ _ _ _ _ _ _ _ _ p=>p.line|.ClassDef _ _ _ _ _ _ _ _ _ _ p=>p.line|_=>0
noncomputable def fSa:Stmt->List Str|.ClassDef _ _ _ _ _ _ _ _ _ l _=>l|_=>[]
noncomputable def Wi(z:Stmt):Bool:=(fScope z).more.isEmpty
noncomputable def lcs(z:Stmt):List Str:=if Wi z then((fScope z).names.filter λp=>p.2== .local).map (·.1) else []
noncomputable def adv(z:Stmt)(a b:Nat):Nat:=if Wi z then a else b
noncomputable def th:Nat->List Str->List aa
 |_,[] =>[]
 |b,x::l=>.str x b::th (b+1) l
noncomputable def tup(l:List aa):Obj:=⟨tT,none,.seq (.mk l) 0,#[]⟩
noncomputable def BX(l:List aa):Obj:=⟨vN,none,.fields (.mk l),#[]⟩
noncomputable def cat(x y:Str):Str:=⟨.mk (x.cps.toList++y.cps.toList)⟩
noncomputable abbrev pth:String:="/claim/cut.py"
noncomputable def Hi(m:String)(t:Nat):Rec->List Obj
 |(z,q,f,b)=>
  let g:=b+3+(lcs z).length
  let k:=f+adv z 5 3
  [tup [],BX []] ++(if Wi z then [tup (th (b+3) (lcs z)),tup []] else [])++[⟨vN,none,.func (fd z (LU z) q 0 vN vN vN vN vN 0),#[]⟩,
   ⟨tC,none,.fields #[.str (LU z) b,.str q (b+1),S pth (b+2),vi (Wh z),vi (fArgs z).args.length,vi 0,vi 0,vi 3,r f,vT,vi 181,r (f+1),vN,if Wi z then r (f+2) else vN,if Wi z then r (f+3) else vN,r (k-1),vi g,vi (Wh z),S pth (g+1)],#[]⟩,
   ⟨tF,none,.func (fd z (LU z) q 3 vN vN vN (S m t) (r k) 0),#[]⟩]
noncomputable def rn(p:Str):List Stmt->Nat->Nat->List Rec
 | [],_,_=>[]
 |z::l,f,b=>(z,cat p (LU z),f,b)::rn p l (f+adv z 7 5) (b+6+(lcs z).length)
noncomputable abbrev dk(P:cg)(x:Str)(t:Nat)(v:aa):cG:=⟨oi P x,.str x t,v⟩
noncomputable def ent(P:cg):Rec->cG|(z,_,f,b)=>dk P (LU z) (b+5+(lcs z).length) (r (f+adv z 6 4))
noncomputable def fld(k:Nat):Rec->List aa|(z,_,f,_)=>[vi (Wh z),vi k,r (f+adv z 5 3)]
noncomputable def g0:List Rec:=rn "" (sl 1 3) 15 189
noncomputable def g1:List Rec:=rn "" (sl 5 25) 36 214
noncomputable def g2:List Rec:=rn "" (sl 42 14) 248 577
noncomputable def g3:List Rec:=rn "" (sl 57 6) 400 774
noncomputable def g4:List Rec:=rn "" (sl 65 6) 463 865
noncomputable def g5:List Rec:=rn "" (sl 73 28) 525 957
noncomputable def g6:List Rec:=rn "" (sl 107 10) 726 1243
noncomputable def g7:List Rec:=rn "" (sl 128 7) 982 1636
noncomputable def g8:List Rec:=rn "" (sl 136 2) 1027 1697
noncomputable def QPo:Obj:=⟨.type "builtin_function_or_method",none,.fields #[.builtin "type.__prepare__",tY],#[]⟩
noncomputable def zi(a:Nat):Obj:=⟨.type "builtin_function_or_method",none,.fields #[.builtin "object.__init_subclass__",r a],#[]⟩
noncomputable def zs(a:Nat):Obj:=⟨.type "super",none,.fields #[r a,r a,r a],#[]⟩
noncomputable def zw(a b:Nat):Obj:=⟨.type "getset_descriptor",none,.fields #[S "__weakref__" a,r b,.builtin "ExceptionGroup.__weakref__",vN],#[]⟩
noncomputable def zd(a b:Nat):Obj:=⟨.type "getset_descriptor",none,.fields #[S "__dict__" a,r b,.builtin "function.__dict__",.builtin "function.__dict__#set"],#[]⟩
noncomputable def zf(a b:Nat)(m:String)(t:Nat):Obj:=⟨.type "frame",none,.plain,#[some (r a),some (r 3),some (r b),none,some (S m t),none,some (r 0)]⟩
noncomputable def zc(n:Str)(b l a u:Nat):Obj:=⟨tC,none,.fields #[.str n b,.str n (b+1),S pth (b+2),vi l,vi 0,vi 0,vi 0,vi 0,r a,vF,vi u,r (a+1),vN,vN,vN,vN,vi (b+3),vi l,S pth (b+4)],#[]⟩
noncomputable def bo(P:cg)(a:Nat):Obj:=(drp a (kG P).objs.toList).headD default
noncomputable abbrev tcl(i:Nat)(a c:Nat):List Rec:=rn (cat (LU (st i)) ".") (Pr (st i)) a c
noncomputable def cdt(P:cg)(m:String)(t i:Nat)(c:Nat)(q:Bool)(R:List Rec):List cG:=[de P "__module__" (c+7) (S m t)] ++(if q then [de P "__qualname__" (c+9) (.str (LU (st i)) (c+8))] else [])++de P "__firstlineno__" (c+11) (.int (.ofNat (Wh (st i))) (c+10))::R.map (ent P)
noncomputable def Wj(P:cg)(m:String)(t i a c e b:Nat):List Obj:=
 let R:=tcl i (a+7) (c+12)
 let x:=fSa (st i)
 let k:=b+x.length
 let n:=LU (st i)
 [tup [],QPo,⟨.type "dict",none,.dict (.mk (cdt P m t i c true R++[de P "__static_attributes__" k (r e)])) (R.length+4),#[]⟩,tup [],BX (R.flatMap (fld 4)),zc n (c+2) (Wh (st i)) (a+3) 181,zf (a+5) (a+2) m t] ++R.flatMap (Hi m t)++[tup (th b x),⟨.type "dict",none,.dict (.mk (cdt P m t i c false R++[de P "__static_attributes__" k (r e),de P "__dict__" (k+2) (r (e+3)),de P "__weakref__" (k+4) (r (e+4)),de P "__doc__" (k+5) vN])) 4,#[]⟩,
  ⟨tY,none,.cls ⟨n,[tO],[r (e+2),tO],e+1,n,true,[],[],false,none,false⟩,#[none,none,some (.str n c),some (.str n (c+8)),some (.builtin "object.__new__"),some vT]⟩,zd (k+1) (e+2),zw (k+3) (e+2),zs (e+2),zi (e+2)]
noncomputable def AL(P:cg)(x2 x3 x12 aaG:Obj):List Obj:=[bo P 0,bo P 1,x2,x3,bo P 4,bo P 5,bo P 6,bo P 7,bo P 8,bo P 9,bo P 10,tup [],x12,zc "<module>" 182 1 11 181,zf 13 3 "__main__" 164] ++(g0.flatMap (Hi "z80.cpu" 187)++(g1.flatMap (Hi "z80.disassembler" 212)++([tup (th 470 ["<>","<=",">="]),tup (th 478 ["OR","XOR"]),tup (th 480 ["AND"]),tup (th 481 ["EQ","NE","LT","LE","GT","GE","=","<>","<","<=",">",">="]),tup (th 493 ["+","-"]),tup (th 495 ["*","/","MOD","SHL","SHR"]),tup [(r 208),(r 209),(r 210),(r 211),(r 212)],tup (th 501 ["+","-","NOT","HIGH","LOW"]),⟨(.type "dict"),none,(.dict #[de P "=" 507 (S "EQ" 508),de P "<>" 509 (S "NE" 510),de P "<" 511 (S "LT" 512),de P "<=" 513 (S "LE" 514),de P ">" 515 (S "GT" 516),de P ">=" 517 (S "GE" 518)] 6),#[]⟩,tup [tE],QPo,⟨(.type "dict"),none,(.dict #[de P "__module__" 537 (S "z80.words" 466),de P "__qualname__" 539 (S "AsmError" 538),de P "__firstlineno__" 541 (.int 214 540),de P "__init__" 550 (r 229),de P "__static_attributes__" 553 (r 230)] 5),#[]⟩,tup [],BX [(vi 216),(vi 4),(r 228)],zc "AsmError" 532 214 219 181,zf 221 218 "z80.words" 466] ++(Hi "z80.words" 466 (mt 40 0,"AsmError.__init__",223,542)++([tup (th 551 ["row","text"]),⟨(.type "dict"),none,(.dict #[de P "__module__" 537 (S "z80.words" 466),de P "__firstlineno__" 541 (.int 214 540),de P "__init__" 550 (r 229),de P "__static_attributes__" 553 (r 230),de P "__weakref__" 555 (r 233),de P "__doc__" 556 vN] 3),#[]⟩,aaG,zw 554 232,zs 232,zi 232,tup [(r 232)],QPo,⟨(.type "dict"),none,(.dict #[de P "__module__" 568 (S "z80.words" 466),de P "__qualname__" 570 (S "Unknown" 569),de P "__firstlineno__" 572 (.int 219 571),de P "__static_attributes__" 573 (r 243)] 4),#[]⟩,tup [],BX [],zc "Unknown" 563 219 239 181,zf 241 238 "z80.words" 466,tup [],⟨(.type "dict"),none,(.dict #[de P "__module__" 568 (S "z80.words" 466),de P "__firstlineno__" 572 (.int 219 571),de P "__static_attributes__" 573 (r 243),de P "__doc__" 574 vN] 2),#[]⟩,⟨tY,none,(.cls ⟨(s "Unknown"),[(r 232)],[(r 245),(r 232),tE,(.type "BaseException"),tO],244,(s "Unknown"),true,[],[],false,none,false⟩),#[(some (r 236)),none,(some (S "Unknown" 561)),(some (S "Unknown" 569)),(some (.builtin "Exception.__new__")),(some vT)]⟩,zs 245,zi 245] ++(g2.flatMap (Hi "z80.words" 466)++(Wj P "z80.words" 466 56 344 699 393 763++(g3.flatMap (Hi "z80.words" 466)++(Wj P "z80.asmrows" 829 64 442 831 456 852++(g4.flatMap (Hi "z80.asmrows" 829)++([tup [tE],QPo,⟨(.type "dict"),none,(.dict #[de P "__module__" 933 (S "z80.encode" 924),de P "__qualname__" 935 (S "BadOrder" 934),de P "__firstlineno__" 937 (.int 494 936),de P "__init__" 946 (r 518),de P "__static_attributes__" 948 (r 519),de P "__classcell__" 949 (r 506)] 6),#[]⟩,⟨(.type "cell"),none,(.cell (some (r 521))),#[]⟩,tup [],BX [(vi 496),(vi 4),(r 517)],zc "BadOrder" 928 494 507 181,zf 509 505 "z80.encode" 924,tup [(r 506)],tup (th 941 ["__class__"]),BX [],tup (th 942 ["self","text"]),tup [],⟨vN,none,(.func (fd (mt 72 0) (s "__init__") (s "BadOrder.__init__") 0 vN vN vN vN vN 0)),#[]⟩,⟨tC,none,(.fields #[(S "__init__" 938),(S "BadOrder.__init__" 939),(S "/claim/cut.py" 940),(vi 496),(vi 2),(vi 0),(vi 0),(vi 3),(r 512),vT,(vi 181),(r 513),vN,(r 514),(r 515),(r 516),(vi 944),(vi 496),(S "/claim/cut.py" 945)]),#[]⟩,⟨tF,none,(.func (fdc (mt 72 0) (s "__init__") (s "BadOrder.__init__") 3 [((s "__class__"),506)] vN vN vN (S "z80.encode" 924) (r 517) (r 511) 0)),#[]⟩,tup (th 947 ["text"]),⟨(.type "dict"),none,(.dict #[de P "__module__" 933 (S "z80.encode" 924),de P "__firstlineno__" 937 (.int 494 936),de P "__init__" 946 (r 518),de P "__static_attributes__" 948 (r 519),de P "__weakref__" 951 (r 522),de P "__doc__" 952 vN] 4),#[]⟩,⟨tY,none,(.cls ⟨(s "BadOrder"),[tE],[(r 521),tE,(.type "BaseException"),tO],520,(s "BadOrder"),true,[],[],false,none,false⟩),#[(some (r 503)),none,(some (S "BadOrder" 926)),(some (S "BadOrder" 934)),(some (.builtin "Exception.__new__")),(some vT)]⟩,zw 950 521,zs 521,zi 521] ++(g5.flatMap (Hi "z80.encode" 924)++([tup (th 1200 ["B","C","D","E","H","L","A","F","I","R","IXH","IXL","IYH","IYL"]),tup (th 1215 ["BC","DE","HL","SP","AF","AF'","IX","IY"]),tup (th 1224 ["NZ","Z","NC","PO","PE","P","M"]),tup (th 1232 ["HL","BC","DE","SP","C","IX","IY"]),tup (th 1240 ["IX","IY"])] ++(g6.flatMap (Hi "z80.operands" 1198)++([tup (th 1333 ["DB","DEFB","DEFM"]),tup (th 1337 ["DW","DEFW"]),tup (th 1340 ["DS","DEFS"]),tup (th 1343 ["SET","DEFL","="]),tup (th 1347 ["JR","DJNZ"])] ++(Wj P "z80.assembler" 1327 125 797 1350 811 1371++(Wj P "z80.assembler" 1327 126 818 1381 832 1400++(Wj P "z80.assembler" 1327 127 839 1413 975 1615++(g7.flatMap (Hi "z80.assembler" 1327)++(g8.flatMap (Hi "law_nz0596_01" 1695)))))))))))))))))))))
noncomputable def GL(P:cg):List cG:=[de P "__doc__" 166 vN,de P "__package__" 167 vN,de P "__loader__" 168 (.builtin "__main__.__loader__#opaque"),de P "__spec__" 169 vN,de P "__annotations__" 170 (r 6),de P "__builtins__" 171 (r 4),de P "__file__" 173 (S "/claim/cut.py" 172),de P "__cached__" 174 vN] ++(g0.map (ent P)++(g1.map (ent P)++([de P "DIGITS" 469 (S "0123456789ABCDEF" 468),de P "SIGNS_OF_TWO" 473 (r 207),de P "SIGNS" 475 (S "+-*/(),=<>:$" 474),de P "QUOTES" 477 (S "'\"" 476),de P "LEVELS" 500 (r 213),de P "UNARY" 506 (r 214),de P "SAME" 525 (r 215),de P "TRUE" 527 (.int 65535 526),de P "MOST_DEPTH" 529 (.int 12 528),de P "AsmError" 560 (r 232),de P "Unknown" 576 (r 245)] ++(g2.map (ent P)++([de P "Reader" 773 (r 395)] ++(g3.map (ent P)++([de P "AsmRow" 864 (r 458)] ++(g4.map (ent P)++([de P "BadOrder" 956 (r 521)] ++(g5.map (ent P)++([de P "REGISTERS" 1214 (r 721),de P "PAIRS" 1223 (r 722),de P "CONDITIONS" 1231 (r 723),de P "IN_PARENTHESES" 1239 (r 724),de P "INDEXES" 1242 (r 725)] ++(g6.map (ent P)++([de P "MOST_NESTED" 1330 (.int 8 1329),de P "MOST_ROWS" 1332 (.int 4000 1331),de P "OCTETS" 1336 (r 792),de P "WORDS" 1339 (r 793),de P "ROOM" 1342 (r 794),de P "AGAIN" 1346 (r 795),de P "FAR" 1349 (r 796),de P "Macro" 1380 (r 813),de P "Assembly" 1412 (r 834),de P "Pass" 1635 (r 977)] ++(g7.map (ent P)++(g8.map (ent P))))))))))))))))
noncomputable def FL:List aa:=g0.flatMap (fld 0)++(g1.flatMap (fld 0)++([(vi 214),(vi 0),(r 221),(vi 219),(vi 0),(r 241)] ++(g2.flatMap (fld 0)++([(vi 307),(vi 0),(r 349)] ++(g3.flatMap (fld 0)++([(vi 417),(vi 0),(r 447)] ++(g4.flatMap (fld 0)++([(vi 494),(vi 0),(r 509)] ++(g5.flatMap (fld 0)++(g6.flatMap (fld 0)++([(vi 821),(vi 0),(r 802),(vi 826),(vi 0),(r 823),(vi 834),(vi 0),(r 844)] ++(g7.flatMap (fld 0)++(g8.flatMap (fld 0))))))))))))))
noncomputable def y0(P:cg):Obj:=⟨vN,none,(.dict #[] 0),#[]⟩
noncomputable def y1(P:cg):Obj:=⟨vN,none,(.dict #[de P "type.__subclasses__.Exception.0" 557 (vi 232),de P "type.__subclasses__.Exception.n" 558 (vi 1)] 2),#[]⟩
noncomputable def y2(P:cg):Obj:=⟨vN,none,(.dict #[de P "type.__subclasses__.Exception.0" 557 (vi 232),de P "type.__subclasses__.Exception.n" 558 (vi 2),de P "type.__subclasses__.Exception.1" 953 (vi 521)] 3),#[]⟩
noncomputable def u(l:List aa):Obj:=⟨tY,none,(.cls ⟨(s "AsmError"),[tE],[(r 232),tE,(.type "BaseException"),tO],231,(s "AsmError"),true,[],l,false,none,false⟩),#[(some (r 216)),none,(some (S "AsmError" 530)),(some (S "AsmError" 538)),(some (.builtin "Exception.__new__")),(some vT)]⟩
noncomputable def tx(N:Nat)(x:cg->Obj)(m:String)(t n k:Nat)(y:Obj)(P:cg):BT:=bt 11 (VJ N (AL P (x P) ⟨.type "dict",none,.dict (.mk (de P "__name__" 165 (S m t)::VJ (n-1) (GL P))) n,#[]⟩ (BX (VJ k FL)) y))
noncomputable def Sx(o N:Nat)(x:cg->Obj)(m:String)(t n k:Nat)(y:Obj)(w:aY)(os:b_):SharedT:=⟨tx N x m t n k y w.params,N,lf,.mk [],qS,o,os⟩
noncomputable def S0:=Sx 187 15 y0 "__main__" 164 9 0 (u [(r 245)])
noncomputable def S1:=Sx 296 99 y0 "z80.disassembler" 212 21 36 (u [(r 245)])
noncomputable def S2:=Sx 427 181 y0 "z80.disassembler" 212 33 72 (u [(r 245)])
noncomputable def S3:=Sx 507 215 y0 "z80.words" 466 43 84 (u [(r 245)])
noncomputable def S4:=Sx 526 216 y0 "z80.words" 466 44 84 (u [(r 245)])
noncomputable def S5:=Sx 561 236 y1 "z80.words" 466 47 87 (u [])
noncomputable def S6:=Sx 623 288 y1 "z80.words" 466 54 108 (u [(r 245)])
noncomputable def S7:=Sx 699 344 y1 "z80.words" 466 62 132 (u [(r 245)])
noncomputable def S8:=Sx 774 400 y1 "z80.words" 466 63 135 (u [(r 245)])
noncomputable def S9:=Sx 831 442 y1 "z80.asmrows" 829 69 153 (u [(r 245)])
noncomputable def S10:=Sx 911 496 y1 "z80.asmrows" 829 75 171 (u [(r 245)])
noncomputable def S11:=Sx 976 546 y2 "z80.encode" 924 80 186 (u [(r 245)])
noncomputable def S12:=Sx 1086 637 y2 "z80.encode" 924 93 225 (u [(r 245)])
noncomputable def S13:=Sx 1200 721 y2 "z80.operands" 1198 105 261 (u [(r 245)])
noncomputable def S14:=Sx 1329 792 y2 "z80.assembler" 1327 120 291 (u [(r 245)])
noncomputable def S15:=Sx 1381 818 y2 "z80.assembler" 1327 128 294 (u [(r 245)])
noncomputable def S16:=Sx 1413 839 y2 "z80.assembler" 1327 129 297 (u [(r 245)])
noncomputable def S17:=Sx 1636 982 y2 "z80.assembler" 1327 130 300 (u [(r 245)])
noncomputable def S18:=Sx 1711 1039 y2 "law_nz0596_01" 1695 139 327 (u [(r 245)])
noncomputable def t18:=tx 1039 y2 "law_nz0596_01" 1695 139 327 (u [(r 245)])
noncomputable abbrev PC(S T:aY->b_->SharedT)(k i n:Nat)(p q:Pos)(w:aY)(os:b_):Prop:=segRunT treeTable P0 w 11 an 1 k (S w os) (piecesOf (sl i n) env cE p BB)=some (.next,T w os,cE,q)
theorem pc0(w:aY)(os:b_):PC S0 S1 388 0 14 ⟨0,0,0,0⟩ ⟨55,0,57,73⟩ w os:=by kernel_rfl
theorem pc1(w:aY)(os:b_):PC S1 S2 394 14 12 ⟨55,0,57,73⟩ ⟨168,0,180,78⟩ w os:=by kernel_rfl
theorem pc2(w:aY)(os:b_):PC S2 S3 232 26 11 ⟨168,0,180,78⟩ ⟨210,0,210,5⟩ w os:=by kernel_rfl
theorem pc3(w:aY):∀os:b_,PC S3 S4 101 37 1 ⟨210,0,210,5⟩ ⟨211,0,211,4⟩ w os:=byRow2 "special-get-raises" (P:=λw=>∀os:b_,PC S3 S4 101 37 1 ⟨210,0,210,5⟩ ⟨211,0,211,4⟩ w os) (λw os=>by kernel_rfl) (λw os=>by kernel_rfl) w
theorem pc4(w:aY)(os:b_):PC S4 S5 249 38 3 ⟨211,0,211,4⟩ ⟨214,0,218,24⟩ w os:=by kernel_rfl
theorem pc5(w:aY)(os:b_):PC S5 S6 390 41 7 ⟨214,0,218,24⟩ ⟨233,0,240,43⟩ w os:=by kernel_rfl
theorem pc6(w:aY)(os:b_):PC S6 S7 253 48 8 ⟨233,0,240,43⟩ ⟨303,0,306,15⟩ w os:=by kernel_rfl
theorem pc7(w:aY)(os:b_):PC S7 S8 389 56 1 ⟨303,0,306,15⟩ ⟨307,0,356,47⟩ w os:=by kernel_rfl
theorem pc8(w:aY)(os:b_):PC S8 S9 197 57 7 ⟨307,0,356,47⟩ ⟨416,0,416,8⟩ w os:=by kernel_rfl
theorem pc9(w:aY)(os:b_):PC S9 S10 382 64 6 ⟨416,0,416,8⟩ ⟨467,0,477,13⟩ w os:=by kernel_rfl
theorem aaH(w:aY)(os:b_):PC S10 S11 374 70 6 ⟨467,0,477,13⟩ ⟨503,0,506,44⟩ w os:=by kernel_rfl
theorem aaI(w:aY)(os:b_):PC S11 S12 397 76 13 ⟨503,0,506,44⟩ ⟨590,0,600,15⟩ w os:=by kernel_rfl
theorem aaJ(w:aY)(os:b_):PC S12 S13 386 89 13 ⟨590,0,600,15⟩ ⟨734,0,734,8⟩ w os:=by kernel_rfl
theorem aaK(w:aY)(os:b_):PC S13 S14 398 102 16 ⟨734,0,734,8⟩ ⟨813,0,813,8⟩ w os:=by kernel_rfl
theorem aaL(w:aY)(os:b_):PC S14 S15 305 118 8 ⟨813,0,813,8⟩ ⟨821,0,825,24⟩ w os:=by kernel_rfl
theorem aaM(w:aY)(os:b_):PC S15 S16 226 126 1 ⟨821,0,825,24⟩ ⟨826,0,833,25⟩ w os:=by kernel_rfl
theorem aaN(w:aY)(os:b_):PC S16 S17 845 127 1 ⟨826,0,833,25⟩ ⟨834,0,1031,51⟩ w os:=by kernel_rfl
theorem aaO(w:aY)(os:b_):PC S17 S18 275 128 10 ⟨834,0,1031,51⟩ ⟨1082,0,1104,55⟩ w os:=by kernel_rfl
set_option tactic.hygienic true
set_option backward.match.sparseCases true
noncomputable abbrev A0(w:aY)(os:b_):aj:=⟨kG w.params,nq [],qS,boot_toks,os⟩
noncomputable abbrev H1_(P:cg):ay:=absHeap (t18 P) 1039 lf
noncomputable abbrev AZ(w:aY)(os:b_):aj:=⟨H1_ w.params,nq [],qS,1711,os⟩
theorem aaP(w:aY)(os:b_):topGo treeTable P0 w 11 an 12 (A0 w os) (topStub P0)=some ((S0 w os).abs,⟨denote treeTable cE,cE,⟨0,0,0,0⟩,BB⟩):=by kernel_rfl
theorem aaQ(w:aY)(os:b_):segRunT treeTable P0 w 11 an 1 1 (S0 w os) (blockOf (behindTheImports P0) env cE ⟨0,0,0,0⟩ BB)=some (.next,S0 w os,cE,⟨0,0,0,0⟩):=by kernel_rfl
theorem QS(w:aY)(os:b_):topRun treeTable P0 w 11 an 2 (S18 w os).abs ⟨doneF .next,cE,⟨1082,0,1104,55⟩,BB⟩=some (AZ w os):=by kernel_rfl
theorem aaR:behindTheImports P0=(sl 0 14++(sl 14 12++(sl 26 11++(sl 37 1++(sl 38 3++(sl 41 7++(sl 48 8++(sl 56 1++(sl 57 7++(sl 64 6++(sl 70 6++(sl 76 13++(sl 89 13++(sl 102 16++(sl 118 8++(sl 126 1++(sl 127 1++(sl 128 10++[])))))))))))))))))):=by kernel_rfl
theorem Wk(w:aY)(os:b_):topRun treeTable P0 w 11 an (388+(394+(232+(101+(249+(390+(253+(389+(197+(382+(374+(397+(386+(398+(305+(226+(845+(275+2)))))))))))))))))) (S0 w os).abs (restOf (behindTheImports P0) env cE ⟨0,0,0,0⟩ BB)=some (AZ w os):=by
 rw[aaR];exact eF (d9 (pc0 w os)) (eF (d9 (pc1 w os)) (eF (d9 (pc2 w os)) (eF (d9 (pc3 w os)) (eF (d9 (pc4 w os)) (eF (d9 (pc5 w os)) (eF (d9 (pc6 w os)) (eF (d9 (pc7 w os)) (eF (d9 (pc8 w os)) (eF (d9 (pc9 w os)) (eF (d9 (aaH w os)) (eF (d9 (aaI w os)) (eF (d9 (aaJ w os)) (eF (d9 (aaK w os)) (eF (d9 (aaL w os)) (eF (d9 (aaM w os)) (eF (d9 (aaN w os)) (eF (d9 (aaO w os)) (piece_nil (QS w os)))))))))))))))))))
theorem aaS(w:aY)(os:b_):topRun treeTable P0 w 11 an (12+(1+(388+(394+(232+(101+(249+(390+(253+(389+(197+(382+(374+(397+(386+(398+(305+(226+(845+(275+2)))))))))))))))))))) (A0 w os) (topStub P0)=some (AZ w os):=go_top (aaP w os) (piece_block (d9 (aaQ w os)) (Wk w os))
theorem Wl:∀w:aY,(fencedOpening treeTable P0 w 12492).map (λs=>(s.heap,s.gens,s.drawn,s.toks))=some (kG w.params,nq [],qS,boot_toks):=boot_open (by kernel_rfl) (by decide+kernel) (λs=>by rfl)
theorem Wm(w:aY):((kG w.params).isNs mainGlobals&&(nq [] :Array GenState).size==0,(kG w.params).objs.size,(kG w.params).nsMap mainGlobals "__annotations__")=(true,11,an):=by kernel_rfl
noncomputable abbrev LW:OpenLaw:=PySem.Challenge.rw_nz0596_01
theorem q1:sreFenced P0.main=true:=by kernel_rfl
theorem q2:((moduleNames P0.main.body).isEmpty||lookedIntoSs (moduleNames P0.main.body) P0.main.body)=true:=by kernel_rfl
theorem q3:namesResolve P0=true:=by kernel_rfl
theorem q4:(P0.boundNames.all λn=>!worldNames.contains n)=true:=by kernel_rfl
theorem q5:(noRoadLSs {strict:=!(importedModules P0.main.body).all cThrough.contains,foot:=none,bare:=(["vars","dir","locals"] :List Str).filter (readsOut P0 P0.main.body)} P0.main.body)=true:=by kernel_rfl
theorem q6:(namesMeet P0 P0.main.body λY n=>attrL n)=true:=by kernel_rfl
theorem Wn:looksOpen P0=true:=j2 (j2 (j2 (j2 (j2 q1 q2) q3) q4) q5) q6
theorem Wo:LW.row.wellSaid=true:=by
 unfold OpenRow.wellSaid OpenRow.partSaid
 repeat' with_reducible apply j2
 ·exact Wn
 all_goals kernel_rfl
theorem aaT:LW.wellSaid=true:=by
 unfold OpenLaw.wellSaid
 repeat' with_reducible apply j2
 ·exact Wo
 all_goals kernel_rfl
noncomputable def QV:Program:={P0 with main:={P0.main with body:=[st 137] }}
noncomputable def LO:List Str:=P0.boundNames.filter λn=>!(n== "law")
noncomputable abbrev mods:List Str:=importedModules P0.main.body
section
variable(w:aY)(os:b_)
theorem l1:(staticsOk mods (kG w.params) (H1_ w.params)&&namesBound P0 (H1_ w.params)&&gensDone (AZ w os)&&laidKept (kG w.params) (H1_ w.params))=true:=by kernel_rfl
theorem l2:seen ((recsOf QV).map (·.name)) (ownsOf QV) [] {AZ w os with gens:= #[] }=expectedOf QV:=by kernel_rfl
theorem l3:(AZ w os).heap.bltView=bltViewBooted:=by kernel_rfl
theorem l4:((AZ w os).heap.keysOk (looseW QV LO) ((recsOf QV).map (·.name)) ((litsOf QV).map (·.1)) ((clssOf QV (looseW QV LO)).map (·.name))&&(AZ w os).heap.accountedOkI mods&&(AZ w os).heap.isNs mainGlobals&&(AZ w os).heap.isNs builtinsNs&&tablesOk QV (AZ w os).heap&&true&&(if true then(AZ w os).gens.size==0 else !leftWithCleanup (AZ w os).gens))=true:=by kernel_rfl
theorem l5:tabsOk QV (AZ w os)=true:=by kernel_rfl
theorem l6:pinSeenD QV (drecsOf QV) (AZ w os)=pinGoodD (drecsOf QV):=by kernel_rfl
theorem l7:plainSeenE QV (looseW QV LO) (AZ w os)=plainGoodE QV (looseW QV LO):=by kernel_rfl
theorem l8:plainSeenD QV LO (AZ w os)=plainGoodD QV LO:=by kernel_rfl
theorem l9:wideSeen QV (AZ w os)=wideGood QV:=by kernel_rfl
theorem l10:clsSeenW QV LO (AZ w os)=clsGoodW QV LO:=by kernel_rfl
end
set_option tactic.hygienic false
set_option genCtorIdx false
end MH.Internal
namespace Mine.Internal
noncomputable abbrev eU:Nat:=1891076277
noncomputable abbrev bY:Nat:=1994045641
noncomputable abbrev aB:Nat:=30167
noncomputable abbrev uS:Nat:=460053044025
noncomputable abbrev qT:Nat:=1739095455
noncomputable abbrev j3:Nat:=442501512993
noncomputable abbrev sT:Nat:=33538731164901628
noncomputable abbrev gj:Nat:=1721662135
noncomputable abbrev aJ:Nat:=7954779
noncomputable abbrev hU:Nat:=486040416778
noncomputable abbrev gy:Nat:=6699578
noncomputable abbrev gz:Nat:=446982207522
noncomputable abbrev pS:Nat:=1987489748197151371738
noncomputable abbrev je:Nat:=29226695233153520
noncomputable abbrev d_:Nat:=1722058432
noncomputable abbrev uT:Nat:=8619161200889681508
noncomputable abbrev fT:Nat:=137284489495199
noncomputable abbrev rU:Nat:=130539940379802
noncomputable abbrev uU:Nat:=129379472462991
noncomputable abbrev aT:Nat:=1755608750
noncomputable abbrev ei:Nat:=33546565839624976
noncomputable abbrev gA:Nat:=32118214709430551
noncomputable abbrev my:Nat:=33250533180689895
noncomputable abbrev mz:Nat:=33842489825626102
noncomputable abbrev BY:Nat:=2234301097966099643870
noncomputable abbrev hZ:Nat:=446676204555
noncomputable abbrev kU:Nat:=130566115793560
noncomputable abbrev xK:Nat:=30091140590335745
noncomputable abbrev dG:Nat:=1739559871
noncomputable abbrev eb:Nat:=1993454026
noncomputable abbrev ec:Nat:=512148198948
noncomputable abbrev gB:Nat:=1977007567
noncomputable abbrev uV:Nat:=113683609895049
noncomputable abbrev mA:Nat:=114796006032791
noncomputable abbrev fU:Nat:=2078257081
noncomputable abbrev gC:Nat:=1891805901
noncomputable abbrev kW:Nat:=446675941130
noncomputable abbrev gD:Nat:=8020812
noncomputable abbrev gX:Nat:=1857456292
noncomputable abbrev jf:Nat:=131669888571291
set_option genInjectivity false
set_option genSizeOf false
set_option tactic.hygienic false
set_option backward.match.sparseCases true
set_option genCtorIdx false
abbrev S:=List Nat
inductive V:Type where
 |none|bool (b:Bool)|int (i:Int)|sym (i:Int)|rV (a k:Int)|str (s:S)|ak (s:S)|zZ (b:Bool)
 |tup (l:V)|lst (l:V)|wX (l:V)|xf (c:Nat) (l:V)
 |om (a b d:Int)|G_ (v:V)
 |loc (i:Nat)|fn (f:Nat)|cls (c:Nat)|blt (b:Nat)
 |nil|cons (a r:V)|kv (k v r:V)|fld (m:Nat) (v r:V)
noncomputable def V.ctorIdx(v:V):Nat:=@V.casesOn (λY=>Nat) v 0 (λY=>1) (λY=>2) (λY=>3) (λY Y=>4) (λY=>5) (λY=>6) (λY=>7) (λY=>8) (λY=>9) (λY=>10) (λY Y=>11) (λY Y Y=>12) (λY=>13) (λY=>14) (λY=>15) (λY=>16) (λY=>17) 18 (λY Y=>19) (λY Y Y=>20) (λY Y Y=>21)
inductive O:Type where
 |list (l:V)|du (l:V)|inst (c:Nat) (l:V)|dict (l:V)|gone
noncomputable def O.ctorIdx(v:O):Nat:=@O.casesOn (λY=>Nat) v (λY=>0) (λY=>1) (λY Y=>2) (λY=>3) 4
inductive Env:Type where|nil|cons (x:Nat) (v:V) (r:Env)
noncomputable def Env.ctorIdx(v:Env):Nat:=@Env.casesOn (λY=>Nat) v 0 (λY Y Y=>1)
set_option genCtorIdx true in
inductive hV:Type where|add|sub|mul|fdiv|mod|shl|shr|and|or
set_option genCtorIdx true in
inductive xg:Type where|eq|ne|lt|le|gt|ge|BO|nin|is_|isn
set_option genCtorIdx true in
inductive Mt:Type where|append|extend|index|join|find|get|split|other
structure Mm where
 bk:List O
 hin:List V
 nj:List Prop
inductive RE:Type where|no|ok (v:V) (B:Mm)
noncomputable def RE.ctorIdx(v:RE):Nat:=@RE.casesOn (λY=>Nat) v 0 (λY Y=>1)
inductive RB:Type where|no|ok (b:Bool) (B:Mm)
noncomputable def RB.ctorIdx(v:RB):Nat:=@RB.casesOn (λY=>Nat) v 0 (λY Y=>1)
inductive RM:Type where|no|ok (B:Mm)
noncomputable def RM.ctorIdx(v:RM):Nat:=@RM.casesOn (λY=>Nat) v 0 (λY=>1)
inductive RS:Type where|no|dw (e:Env) (B:Mm)|brk (e:Env) (B:Mm)|cont (e:Env) (B:Mm)|ret (v:V) (B:Mm)
noncomputable def RS.ctorIdx(v:RS):Nat:=@RS.casesOn (λY=>Nat) v 0 (λY Y=>1) (λY Y=>2) (λY Y=>3) (λY Y=>4)
inductive RO:Type where|no|Ha (B:Mm)|Hb (v:V) (B:Mm)
noncomputable def RO.ctorIdx(v:RO):Nat:=@RO.casesOn (λY=>Nat) v 0 (λY=>1) (λY Y=>2)
inductive RD:Type where|no|fin|ok (v:V)
noncomputable def RD.ctorIdx(v:RD):Nat:=@RD.casesOn (λY=>Nat) v 0 1 (λY=>2)
inductive RI:Type where|no|Ha (B:Mm)|Hb (i:Int) (B:Mm)
noncomputable def RI.ctorIdx(v:RI):Nat:=@RI.casesOn (λY=>Nat) v 0 (λY=>1) (λY Y=>2)
inductive OV:Type where|no|ok (v:V)
noncomputable def OV.ctorIdx(v:OV):Nat:=@OV.casesOn (λY=>Nat) v 0 (λY=>1)
inductive OI:Type where|no|ok (i:Int)
noncomputable def OI.ctorIdx(v:OI):Nat:=@OI.casesOn (λY=>Nat) v 0 (λY=>1)
inductive OS:Type where|no|ok (s:S)
noncomputable def OS.ctorIdx(v:OS):Nat:=@OS.casesOn (λY=>Nat) v 0 (λY=>1)
inductive OB:Type where|no|ok (b:Bool)
noncomputable def OB.ctorIdx(v:OB):Nat:=@OB.casesOn (λY=>Nat) v 0 (λY=>1)
inductive OE:Type where|no|ok (e:Env)
noncomputable def OE.ctorIdx(v:OE):Nat:=@OE.casesOn (λY=>Nat) v 0 (λY=>1)
inductive OO:Type where|no|ok (o:O)
noncomputable def OO.ctorIdx(v:OO):Nat:=@OO.casesOn (λY=>Nat) v 0 (λY=>1)
inductive OL:Type where|no|ok (l:List O)
noncomputable def OL.ctorIdx(v:OL):Nat:=@OL.casesOn (λY=>Nat) v 0 (λY=>1)
inductive OA:Type where|no|ok (c:Nat) (l:V)
noncomputable def OA.ctorIdx(v:OA):Nat:=@OA.casesOn (λY=>Nat) v 0 (λY Y=>1)
noncomputable section
def V.rW{H:Type}(d:H)(f:H)(v:V):H:=@V.rec (λY=>H) (f) (λY=>d) (λY=>d) (λY=>d) (λY Y=>d) (λY=>d) (λY=>d) (λY=>d) (λY Y=>d) (λY Y=>d) (λY Y=>d) (λY Y Y=>d) (λY Y Y=>d) (λY Y=>d) (λY=>d) (λY=>d) (λY=>d) (λY=>d) (d) (λY Y Y Y=>d) (λY Y Y Y Y Y=>d) (λY Y Y Y Y=>d) v
def V.QT{H:Type}(d:H)(f:Bool->H)(v:V):H:=@V.rec (λY=>H) (d) (λx0=>f x0) (λY=>d) (λY=>d) (λY Y=>d) (λY=>d) (λY=>d) (λY=>d) (λY Y=>d) (λY Y=>d) (λY Y=>d) (λY Y Y=>d) (λY Y Y=>d) (λY Y=>d) (λY=>d) (λY=>d) (λY=>d) (λY=>d) (d) (λY Y Y Y=>d) (λY Y Y Y Y Y=>d) (λY Y Y Y Y=>d) v
def V.lS{H:Type}(d:H)(f:Int->H)(v:V):H:=@V.rec (λY=>H) (d) (λY=>d) (λx0=>f x0) (λY=>d) (λY Y=>d) (λY=>d) (λY=>d) (λY=>d) (λY Y=>d) (λY Y=>d) (λY Y=>d) (λY Y Y=>d) (λY Y Y=>d) (λY Y=>d) (λY=>d) (λY=>d) (λY=>d) (λY=>d) (d) (λY Y Y Y=>d) (λY Y Y Y Y Y=>d) (λY Y Y Y Y=>d) v
def V.qU{H:Type}(d:H)(f:Int->H)(v:V):H:=@V.rec (λY=>H) (d) (λY=>d) (λY=>d) (λx0=>f x0) (λY Y=>d) (λY=>d) (λY=>d) (λY=>d) (λY Y=>d) (λY Y=>d) (λY Y=>d) (λY Y Y=>d) (λY Y Y=>d) (λY Y=>d) (λY=>d) (λY=>d) (λY=>d) (λY=>d) (d) (λY Y Y Y=>d) (λY Y Y Y Y Y=>d) (λY Y Y Y Y=>d) v
def V.Dw{H:Type}(d:H)(f:Int->Int->H)(v:V):H:=@V.rec (λY=>H) (d) (λY=>d) (λY=>d) (λY=>d) (λx0 x1=>f x0 x1) (λY=>d) (λY=>d) (λY=>d) (λY Y=>d) (λY Y=>d) (λY Y=>d) (λY Y Y=>d) (λY Y Y=>d) (λY Y=>d) (λY=>d) (λY=>d) (λY=>d) (λY=>d) (d) (λY Y Y Y=>d) (λY Y Y Y Y Y=>d) (λY Y Y Y Y=>d) v
def V.qV{H:Type}(d:H)(f:S->H)(v:V):H:=@V.rec (λY=>H) (d) (λY=>d) (λY=>d) (λY=>d) (λY Y=>d) (λx0=>f x0) (λY=>d) (λY=>d) (λY Y=>d) (λY Y=>d) (λY Y=>d) (λY Y Y=>d) (λY Y Y=>d) (λY Y=>d) (λY=>d) (λY=>d) (λY=>d) (λY=>d) (d) (λY Y Y Y=>d) (λY Y Y Y Y Y=>d) (λY Y Y Y Y=>d) v
def V.Dx{H:Type}(d:H)(f:V->H)(v:V):H:=@V.rec (λY=>H) (d) (λY=>d) (λY=>d) (λY=>d) (λY Y=>d) (λY=>d) (λY=>d) (λY=>d) (λx0 Y=>f x0) (λY Y=>d) (λY Y=>d) (λY Y Y=>d) (λY Y Y=>d) (λY Y=>d) (λY=>d) (λY=>d) (λY=>d) (λY=>d) (d) (λY Y Y Y=>d) (λY Y Y Y Y Y=>d) (λY Y Y Y Y=>d) v
def V.Dy{H:Type}(d:H)(f:V->H)(v:V):H:=@V.rec (λY=>H) (d) (λY=>d) (λY=>d) (λY=>d) (λY Y=>d) (λY=>d) (λY=>d) (λY=>d) (λY Y=>d) (λx0 Y=>f x0) (λY Y=>d) (λY Y Y=>d) (λY Y Y=>d) (λY Y=>d) (λY=>d) (λY=>d) (λY=>d) (λY=>d) (d) (λY Y Y Y=>d) (λY Y Y Y Y Y=>d) (λY Y Y Y Y=>d) v
def V.uW{H:Type}(d:H)(f:Nat->H)(v:V):H:=@V.rec (λY=>H) (d) (λY=>d) (λY=>d) (λY=>d) (λY Y=>d) (λY=>d) (λY=>d) (λY=>d) (λY Y=>d) (λY Y=>d) (λY Y=>d) (λY Y Y=>d) (λY Y Y=>d) (λY Y=>d) (λx0=>f x0) (λY=>d) (λY=>d) (λY=>d) (d) (λY Y Y Y=>d) (λY Y Y Y Y Y=>d) (λY Y Y Y Y=>d) v
def V.aaU{H:Type}(d:H)(f:Nat->H)(v:V):H:=@V.rec (λY=>H) (d) (λY=>d) (λY=>d) (λY=>d) (λY Y=>d) (λY=>d) (λY=>d) (λY=>d) (λY Y=>d) (λY Y=>d) (λY Y=>d) (λY Y Y=>d) (λY Y Y=>d) (λY Y=>d) (λY=>d) (λx0=>f x0) (λY=>d) (λY=>d) (d) (λY Y Y Y=>d) (λY Y Y Y Y Y=>d) (λY Y Y Y Y=>d) v
def V.j4{H:Type}(d:H)(f:H)(v:V):H:=@V.rec (λY=>H) (d) (λY=>d) (λY=>d) (λY=>d) (λY Y=>d) (λY=>d) (λY=>d) (λY=>d) (λY Y=>d) (λY Y=>d) (λY Y=>d) (λY Y Y=>d) (λY Y Y=>d) (λY Y=>d) (λY=>d) (λY=>d) (λY=>d) (λY=>d) (f) (λY Y Y Y=>d) (λY Y Y Y Y Y=>d) (λY Y Y Y Y=>d) v
def V.e8{H:Type}(d:H)(f:V->V->H)(v:V):H:=@V.rec (λY=>H) (d) (λY=>d) (λY=>d) (λY=>d) (λY Y=>d) (λY=>d) (λY=>d) (λY=>d) (λY Y=>d) (λY Y=>d) (λY Y=>d) (λY Y Y=>d) (λY Y Y=>d) (λY Y=>d) (λY=>d) (λY=>d) (λY=>d) (λY=>d) (d) (λx0 x1 Y Y=>f x0 x1) (λY Y Y Y Y Y=>d) (λY Y Y Y Y=>d) v
def V.LV{H:Type}(d:H)(f:V->V->V->H)(v:V):H:=@V.rec (λY=>H) (d) (λY=>d) (λY=>d) (λY=>d) (λY Y=>d) (λY=>d) (λY=>d) (λY=>d) (λY Y=>d) (λY Y=>d) (λY Y=>d) (λY Y Y=>d) (λY Y Y=>d) (λY Y=>d) (λY=>d) (λY=>d) (λY=>d) (λY=>d) (d) (λY Y Y Y=>d) (λx0 x1 x2 Y Y Y=>f x0 x1 x2) (λY Y Y Y Y=>d) v
def V.z4{H:Type}(d:H)(n:H)(f:V->V->H)(v:V):H:=@V.rec (λY=>H) (d) (λY=>d) (λY=>d) (λY=>d) (λY Y=>d) (λY=>d) (λY=>d) (λY=>d) (λY Y=>d) (λY Y=>d) (λY Y=>d) (λY Y Y=>d) (λY Y Y=>d) (λY Y=>d) (λY=>d) (λY=>d) (λY=>d) (λY=>d) (n) (λa r Y Y=>f a r) (λY Y Y Y Y Y=>d) (λY Y Y Y Y=>d) v
def V.rc{H:Type}(d:H)(n:H)(f:V->V->H->H)(v:V):H:=@V.rec (λY=>H) (d) (λY=>d) (λY=>d) (λY=>d) (λY Y=>d) (λY=>d) (λY=>d) (λY=>d) (λY Y=>d) (λY Y=>d) (λY Y=>d) (λY Y Y=>d) (λY Y Y=>d) (λY Y=>d) (λY=>d) (λY=>d) (λY=>d) (λY=>d) (n) (λa r Y h=>f a r h) (λY Y Y Y Y Y=>d) (λY Y Y Y Y=>d) v
def V.rk{H:Type}(d:H)(n:H)(f:V->V->V->H->H)(v:V):H:=@V.rec (λY=>H) (d) (λY=>d) (λY=>d) (λY=>d) (λY Y=>d) (λY=>d) (λY=>d) (λY=>d) (λY Y=>d) (λY Y=>d) (λY Y=>d) (λY Y Y=>d) (λY Y Y=>d) (λY Y=>d) (λY=>d) (λY=>d) (λY=>d) (λY=>d) (n) (λY Y Y Y=>d) (λk a r Y Y h=>f k a r h) (λY Y Y Y Y=>d) v
def V.rf{H:Type}(d:H)(n:H)(f:Nat->V->V->H->H)(v:V):H:=@V.rec (λY=>H) (d) (λY=>d) (λY=>d) (λY=>d) (λY Y=>d) (λY=>d) (λY=>d) (λY=>d) (λY Y=>d) (λY Y=>d) (λY Y=>d) (λY Y Y=>d) (λY Y Y=>d) (λY Y=>d) (λY=>d) (λY=>d) (λY=>d) (λY=>d) (n) (λY Y Y Y=>d) (λY Y Y Y Y Y=>d) (λk a r Y h=>f k a r h) v
def gI(a b:Int):Bool:=(@Int.rec (λY=>Bool) (λm=>(@Int.rec (λY=>Bool) (λn=>a9 m n) (λn=>false) (b))) (λm=>(@Int.rec (λY=>Bool) (λn=>true) (λn=>a9 n m) (b))) (a))
def mY(a b:Int):Bool:=(@Int.rec (λY=>Bool) (λm=>(@Int.rec (λY=>Bool) (λn=>bB m n) (λn=>false) (b))) (λm=>(@Int.rec (λY=>Bool) (λn=>true) (λn=>bB n m) (b))) (a))
def rX(a b:Int):Bool:=(@Int.rec (λY=>Bool) (λm=>(@Int.rec (λY=>Bool) (λn=>aC m n) (λn=>false) (b))) (λm=>(@Int.rec (λY=>Bool) (λn=>false) (λn=>aC n m) (b))) (a))
def BZ(a b:Int):Bool:=gI b a
def LX(a b:Int):Bool:=mY b a
def pT(b:Bool):Bool:=(@Bool.rec (λY=>Bool) (true) (false) (b))
def sEq(a:S):S->Bool:=(@List.rec Nat (λY=>(S->Bool)) (λl=>(@List.rec Nat (λY=>Bool) (true) (λY Y Y=>false) (l))) (λx r ih=>λl=>(@List.rec Nat (λY=>Bool) (false) (λy t Y=>(@Bool.rec (λY=>Bool) (false) (ih t) (aC x y))) (l))) (a))
def FG(a:S):S->Bool:=(@List.rec Nat (λY=>(S->Bool)) (λY=>true) (λx r ih=>λl=>(@List.rec Nat (λY=>Bool) (false) (λy t Y=>(@Bool.rec (λY=>Bool) ((@Bool.rec (λY=>Bool) (false) (ih t) (aC x y))) (true) (a9 x y))) (l))) (a))
def z5(c:Nat)(l:S):Bool:=(@List.rec Nat (λY=>Bool) (false) (λb t ih=>(@Bool.rec (λY=>Bool) (ih) (true) (aC b c))) (l))
def gJ(c:Nat)(l:S):Nat->Int:=(@List.rec Nat (λY=>(Nat->Int)) (λn=>d7 0) (λb t ih=>λn=>(@Bool.rec (λY=>Int) (ih (aZ n)) (ab n) (aC b c))) (l))
def j5(l:S):Nat:=(@List.rec Nat (λY=>Nat) (0) (λa r ih=>aZ ih) (l))
def iU(l m:S):S:=(@List.rec Nat (λY=>S) (m) (λa r ih=>cf a ih) (l))
def mB(l:S):Nat->List Nat:=(@List.rec Nat (λY=>(Nat->List Nat)) (λY=>[]) (λa r ih=>λn=>(@Nat.rec (λY=>(List Nat)) (cf a []) (λn Y=>ih n) (n))) (l))
def oq(n:Nat):S->S:=(@Nat.rec (λY=>(S->S)) (λY=>[]) (λn ih=>λl=>(@List.rec Nat (λY=>S) ([]) (λa r Y=>cf a (ih r)) (l))) (n))
def z6(n:Nat):S->S:=(@Nat.rec (λY=>(S->S)) (λl=>l) (λn ih=>λl=>(@List.rec Nat (λY=>S) ([]) (λa r Y=>ih r) (l))) (n))
def VM(n:Nat)(i:Int):Nat:=(@Int.rec (λY=>Nat) (λk=>k) (λk=>(@Bool.rec (λY=>Nat) (n) (lL n (aZ k)) (a9 k n))) (i))
def at_(n:Nat)(i:Int):Nat:=(@Int.rec (λY=>Nat) (λk=>k) (λk=>lL n (aZ k)) (i))
def aO(l:V):Nat:=(@V.rec (λY=>Nat) (0) (λY=>0) (λY=>0) (λY=>0) (λY Y=>0) (λY=>0) (λY=>0) (λY=>0) (λY Y=>0) (λY Y=>0) (λY Y=>0) (λY Y Y=>0) (λY Y Y=>0) (λY Y=>0) (λY=>0) (λY=>0) (λY=>0) (λY=>0) (0) (λa r ia ir=>aZ ir) (λk v r ik iv ir=>aZ ir) (λY Y Y Y Y=>0) (l))
def a_(l m:V):V:=(@V.rec (λY=>V) (m) (λY=>m) (λY=>m) (λY=>m) (λY Y=>m) (λY=>m) (λY=>m) (λY=>m) (λY Y=>m) (λY Y=>m) (λY Y=>m) (λY Y Y=>m) (λY Y Y=>m) (λY Y=>m) (λY=>m) (λY=>m) (λY=>m) (λY=>m) (m) (λa r ia ir=>V.cons a ir) (λk v r ik iv ir=>V.kv k v ir) (λY Y Y Y Y=>m) (l))
def eW(l:V):Nat->OV:=(V.rc (H:=(Nat->OV)) (λY=>OV.no) (λY=>OV.no) (λa r ir=>λn=>(@Nat.rec (λY=>OV) (OV.ok a) (λn Y=>ir n) (n))) (l))
def uX(a:V)(r:OV):OV:=(@OV.rec (λY=>OV) (OV.no) (λr=>OV.ok (V.cons a r)) (r))
def m8(l:V):Nat->V->OV:=(V.rc (H:=(Nat->V->OV)) (λY Y=>OV.no) (λY Y=>OV.no) (λa r ir=>λn v=>(@Nat.rec (λY=>OV) (OV.ok (V.cons v r)) (λn Y=>uX a (ir n v)) (n))) (l))
def pH(n:Nat):V->V:=(@Nat.rec (λY=>(V->V)) (λY=>V.nil) (λn ih=>λl=>(V.e8 (H:=V) (V.nil) (λa r=>V.cons a (ih r)) (l))) (n))
def Pt(n:Nat):V->V:=(@Nat.rec (λY=>(V->V)) (λl=>l) (λn ih=>λl=>(V.e8 (H:=V) (V.nil) (λa r=>ih r) (l))) (n))
def fk(l:V):V->V:=(V.rc (H:=(V->V)) (λm=>m) (λm=>m) (λa r ir=>λm=>ir (V.cons a m)) (l))
def FH(l:V)(n:Nat):V:=(@Nat.rec (λY=>V) (V.nil) (λn ih=>a_ l ih) (n))
def gc(l:V)(x:Nat):OV:=(V.rf (H:=OV) (OV.no) (OV.no) (λy v r ir=>(@Bool.rec (λY=>OV) (ir) (OV.ok v) (aC y x))) (l))
def hP(l:V)(x:Nat)(v:V):V:=(V.rf (H:=V) (V.fld x v V.nil) (V.fld x v V.nil) (λy u r ir=>(@Bool.rec (λY=>V) (V.fld y u ir) (V.fld y v r) (aC y x))) (l))
def a8(l:Env)(x:Nat):OV:=(@Env.rec (λY=>OV) (OV.no) (λy v r ir=>(@Bool.rec (λY=>OV) (ir) (OV.ok v) (aC y x))) (l))
def eS(l:Env)(x:Nat)(v:V):Env:=(@Env.rec (λY=>Env) (Env.cons x v Env.nil) (λy u r ir=>(@Bool.rec (λY=>Env) (Env.cons y u ir) (Env.cons y v r) (aC y x))) (l))
def e_(l:List O):Nat->OO:=(@List.rec O (λY=>(Nat->OO)) (λY=>OO.no) (λa r ih=>λn=>(@Nat.rec (λY=>OO) (OO.ok a) (λn Y=>ih n) (n))) (l))
def B0(a:O)(r:OL):OL:=(@OL.rec (λY=>OL) (OL.no) (λr=>OL.ok (cf a r)) (r))
def lT(l:List O):Nat->O->OL:=(@List.rec O (λY=>(Nat->O->OL)) (λY Y=>OL.no) (λa r ih=>λn v=>(@Nat.rec (λY=>OL) (OL.ok (cf v r)) (λn Y=>B0 a (ih n v)) (n))) (l))
def kB(l:List O):Nat:=(@List.rec O (λY=>Nat) (0) (λa r ih=>aZ ih) (l))
def mE(l:List O)(o:O):List O:=(@List.rec O (λY=>(List O)) (cf o []) (λa r ih=>cf a ih) (l))
def ask(p:Bool)(B:Mm):RB:=(@Mm.rec (λY=>RB) (λs h o=>(@List.rec V (λY=>RB) (RB.no) (λv r Y=>(V.QT (H:=RB) (RB.no) (λb=>RB.ok b (Mm.mk s r (cf (p=b) o))) (v))) (h))) (B))
def cb(v:V):OI:=(@V.rec (λY=>OI) (OI.no) (λY=>OI.no) (λi=>OI.ok i) (λi=>OI.ok i) (λa k=>OI.ok (aS a k)) (λY=>OI.no) (λY=>OI.no) (λY=>OI.no) (λY Y=>OI.no) (λY Y=>OI.no) (λY Y=>OI.no) (λY Y Y=>OI.no) (λY Y Y=>OI.no) (λY Y=>OI.no) (λY=>OI.no) (λY=>OI.no) (λY=>OI.no) (λY=>OI.no) (OI.no) (λY Y Y Y=>OI.no) (λY Y Y Y Y Y=>OI.no) (λY Y Y Y Y=>OI.no) (v))
def cu(v:V):OS:=(@V.rec (λY=>OS) (OS.no) (λY=>OS.no) (λY=>OS.no) (λY=>OS.no) (λY Y=>OS.no) (λs=>OS.ok s) (λs=>OS.ok s) (λY=>OS.no) (λY Y=>OS.no) (λY Y=>OS.no) (λY Y=>OS.no) (λY Y Y=>OS.no) (λY Y Y=>OS.no) (λY Y=>OS.no) (λY=>OS.no) (λY=>OS.no) (λY=>OS.no) (λY=>OS.no) (OS.no) (λY Y Y Y=>OS.no) (λY Y Y Y Y Y=>OS.no) (λY Y Y Y Y=>OS.no) (v))
def Dz(v:V):Bool:=(V.lS (H:=Bool) (false) (λi=>true) (v))
def VN(v:V):Bool:=(V.qV (H:=Bool) (false) (λs=>true) (v))
def isN(v:V):Bool:=(V.rW (H:=Bool) (false) (true) (v))
def both(a b:V):Bool:=(@Bool.rec (λY=>Bool) (false) (Dz b) (Dz a))
def xh(a b:V):Bool:=(@Bool.rec (λY=>Bool) (false) (VN b) (VN a))
def Wr(op:hV)(x k i j:Int):V:=(@hV.rec (λY=>V) (V.rV x (aS k j)) (V.rV x (bP k j)) (V.sym i) (V.sym i) (V.sym i) (V.sym i) (V.sym i) (V.sym i) (V.sym i) (op))
def VO(op:hV)(a b:V)(i:Int):V:=(@V.rec (λY=>V) (V.sym i) (λY=>V.sym i) (λx=>(@Bool.rec (λY=>V) (V.sym i) (V.int i) (Dz b))) (λY=>V.sym i) (λx k=>(V.lS (H:=V) (V.sym i) (λj=>Wr op x k i j) (b))) (λY=>V.sym i) (λY=>V.sym i) (λY=>V.sym i) (λY Y=>V.sym i) (λY Y=>V.sym i) (λY Y=>V.sym i) (λY Y Y=>V.sym i) (λY Y Y=>V.sym i) (λY Y=>V.sym i) (λY=>V.sym i) (λY=>V.sym i) (λY=>V.sym i) (λY=>V.sym i) (V.sym i) (λY Y Y Y=>V.sym i) (λY Y Y Y Y Y=>V.sym i) (λY Y Y Y Y=>V.sym i) (a))
def DA(y:Bool)(s:S):V:=(@Bool.rec (λY=>V) (V.ak s) (V.str s) (y))
def dF(o:OO):OV:=(@OO.rec (λY=>OV) (OV.no) (λo=>(@O.rec (λY=>OV) (λl=>OV.ok l) (λl=>OV.ok l) (λY Y=>OV.no) (λY=>OV.no) (OV.no) (o))) (o))
def DB(o:OO):OV:=(@OO.rec (λY=>OV) (OV.no) (λo=>(@O.rec (λY=>OV) (λY=>OV.no) (λY=>OV.no) (λY Y=>OV.no) (λl=>OV.ok l) (OV.no) (o))) (o))
def uY(o:OO):OA:=(@OO.rec (λY=>OA) (OA.no) (λo=>(@O.rec (λY=>OA) (λY=>OA.no) (λY=>OA.no) (λc l=>OA.ok c l) (λY=>OA.no) (OA.no) (o))) (o))
def bk(B:Mm)(i:Nat):OO:=(@Mm.rec (λY=>OO) (λs h o=>e_ s i) (B))
def items(v:V)(B:Mm):OV:=(@V.rec (λY=>OV) (OV.no) (λY=>OV.no) (λY=>OV.no) (λY=>OV.no) (λY Y=>OV.no) (λY=>OV.no) (λY=>OV.no) (λY=>OV.no) (λl Y=>OV.ok l) (λl Y=>OV.ok l) (λY Y=>OV.no) (λY Y Y=>OV.no) (λY Y Y=>OV.no) (λY Y=>OV.no) (λi=>dF (bk B i)) (λY=>OV.no) (λY=>OV.no) (λY=>OV.no) (OV.no) (λY Y Y Y=>OV.no) (λY Y Y Y Y Y=>OV.no) (λY Y Y Y Y=>OV.no) (v))
def dictOf(v:V)(B:Mm):OV:=(@V.rec (λY=>OV) (OV.no) (λY=>OV.no) (λY=>OV.no) (λY=>OV.no) (λY Y=>OV.no) (λY=>OV.no) (λY=>OV.no) (λY=>OV.no) (λY Y=>OV.no) (λY Y=>OV.no) (λl Y=>OV.ok l) (λY Y Y=>OV.no) (λY Y Y=>OV.no) (λY Y=>OV.no) (λi=>DB (bk B i)) (λY=>OV.no) (λY=>OV.no) (λY=>OV.no) (OV.no) (λY Y Y Y=>OV.no) (λY Y Y Y Y Y=>OV.no) (λY Y Y Y Y=>OV.no) (v))
def attrs(v:V)(B:Mm):OA:=(@V.rec (λY=>OA) (OA.no) (λY=>OA.no) (λY=>OA.no) (λY=>OA.no) (λY Y=>OA.no) (λY=>OA.no) (λY=>OA.no) (λY=>OA.no) (λY Y=>OA.no) (λY Y=>OA.no) (λY Y=>OA.no) (λc l Y=>OA.ok c l) (λY Y Y=>OA.no) (λY Y=>OA.no) (λi=>uY (bk B i)) (λY=>OA.no) (λY=>OA.no) (λY=>OA.no) (OA.no) (λY Y Y Y=>OA.no) (λY Y Y Y Y Y=>OA.no) (λY Y Y Y Y=>OA.no) (v))
def sure(s:Bool)(r:Bool)(B:Mm):RB:=(@Bool.rec (λY=>RB) (ask r B) (RB.ok r B) (s))
def flat(v:V):Bool:=(@V.rec (λY=>Bool) (false) (λY=>false) (λi=>true) (λi=>true) (λa k=>true) (λs=>true) (λs=>true) (λY=>false) (λY Y=>false) (λY Y=>false) (λY Y=>false) (λY Y Y=>false) (λY Y Y=>false) (λY Y=>false) (λY=>false) (λY=>false) (λY=>false) (λY=>false) (false) (λY Y Y Y=>false) (λY Y Y Y Y Y=>false) (λY Y Y Y Y=>false) (v))
def ek(a b:Bool):Bool:=(@Bool.rec (λY=>Bool) (false) (b) (a))
def sU(l:V):V->Bool:=(V.rc (H:=(V->Bool)) (λY=>false) (λm=>true) (λx r ir=>λm=>(V.z4 (H:=Bool) (false) (true) (λy t=>ek (flat x) (ek (flat y) (ir t))) (m))) (l))
def pI(l:V):Bool:=(V.rc (H:=Bool) (false) (true) (λx r ir=>ek (flat x) ir) (l))
def Ws(r:RB):RB:=(@RB.rec (λY=>RB) (RB.no) (λb B=>RB.ok false B) (r))
def eqT(rest:Bool)(r:RB)(k:Mm->RB):RB:=(@RB.rec (λY=>RB) (RB.no) (λb B=>(@Bool.rec (λY=>RB) ((@Bool.rec (λY=>RB) (Ws (k B)) (RB.ok false B) (rest))) (k B) (b))) (r))
def neT(rest:Bool)(r:RB)(k:Mm->RB):RB:=(@RB.rec (λY=>RB) (RB.no) (λb B=>(@Bool.rec (λY=>RB) (k B) ((@Bool.rec (λY=>RB) (RB.no) (RB.ok true B) (rest))) (b))) (r))
def Hj(f:V->V->Mm->RB)(l:V):V->Mm->RB:=(V.rc (H:=(V->Mm->RB)) (λY Y=>RB.no) (λm B=>(V.j4 (H:=RB) (RB.no) (RB.ok true B) (m))) (λx r ir=>λm B=>(V.e8 (H:=RB) (RB.no) (λy t=>eqT (sU r t) (f x y B) (ir t)) (m))) (l))
def B1(f:V->V->Mm->RB)(l:V)(m:V)(B:Mm):RB:=(@Bool.rec (λY=>RB) ((@Bool.rec (λY=>RB) (RB.no) (RB.ok false B) (sU l m))) (Hj f l m B) (aC (aO l) (aO m)))
def Pu(f:V->V->Mm->RB)(l:V)(b:V)(B:Mm):RB:=(V.Dx (H:=RB) (RB.no) (λm=>B1 f l m B) (b))
def B2(f:V->V->Mm->RB)(l:V)(m:V)(B:Mm):RB:=(@Bool.rec (λY=>RB) (RB.ok false B) (Hj f l m B) (aC (aO l) (aO m)))
def xM(f:V->V->Mm->RB)(l:V)(m:OV)(B:Mm):RB:=(@OV.rec (λY=>RB) (RB.no) (λm=>B2 f l m B) (m))
def uZ(f:V->V->Mm->RB)(l:OV)(m:OV)(B:Mm):RB:=(@OV.rec (λY=>RB) (RB.no) (λl=>xM f l m B) (l))
def dY(v:V)(B:Mm):OV:=(@V.rec (λY=>OV) (OV.no) (λY=>OV.no) (λY=>OV.no) (λY=>OV.no) (λY Y=>OV.no) (λY=>OV.no) (λY=>OV.no) (λY=>OV.no) (λY Y=>OV.no) (λl Y=>OV.ok l) (λY Y=>OV.no) (λY Y Y=>OV.no) (λY Y Y=>OV.no) (λY Y=>OV.no) (λi=>dF (bk B i)) (λY=>OV.no) (λY=>OV.no) (λY=>OV.no) (OV.no) (λY Y Y Y=>OV.no) (λY Y Y Y Y Y=>OV.no) (λY Y Y Y Y=>OV.no) (v))
def QU(i:Int)(b:V)(B:Mm):RB:=(@OI.rec (λY=>RB) (RB.no) (λj=>ask (rX i j) B) (cb b))
def Wt(i:Int)(b:V)(B:Mm):RB:=(@V.rec (λY=>RB) (RB.no) (λY=>RB.no) (λj=>RB.ok (rX i j) B) (λj=>ask (rX i j) B) (λa k=>ask (rX i (aS a k)) B) (λs=>RB.ok false B) (λs=>RB.ok false B) (λY=>RB.no) (λY Y=>RB.no) (λY Y=>RB.no) (λY Y=>RB.no) (λY Y Y=>RB.no) (λY Y Y=>RB.no) (λY Y=>RB.no) (λY=>RB.no) (λY=>RB.no) (λY=>RB.no) (λY=>RB.no) (RB.no) (λY Y Y Y=>RB.no) (λY Y Y Y Y Y=>RB.no) (λY Y Y Y Y=>RB.no) (b))
def Hk(s:S)(b:V)(B:Mm):RB:=(@V.rec (λY=>RB) (RB.no) (λY=>RB.no) (λi=>RB.ok false B) (λi=>RB.ok false B) (λY Y=>RB.no) (λt=>RB.ok (sEq s t) B) (λt=>ask (sEq s t) B) (λY=>RB.no) (λY Y=>RB.no) (λY Y=>RB.no) (λY Y=>RB.no) (λY Y Y=>RB.no) (λY Y Y=>RB.no) (λY Y=>RB.no) (λY=>RB.no) (λY=>RB.no) (λY=>RB.no) (λY=>RB.no) (RB.no) (λY Y Y Y=>RB.no) (λY Y Y Y Y Y=>RB.no) (λY Y Y Y Y=>RB.no) (b))
def Wu(s:S)(b:V)(B:Mm):RB:=(@OS.rec (λY=>RB) (RB.no) (λt=>ask (sEq s t) B) (cu b))
def eqS(f:V->V->Mm->RB)(a b:V)(B:Mm):RB:=(@V.rec (λY=>RB) (RB.no) (λY=>RB.no) (λi=>Wt i b B) (λi=>QU i b B) (λx k=>QU (aS x k) b B) (λs=>Hk s b B) (λs=>Wu s b B) (λY=>RB.no) (λl Y=>Pu f l b B) (λl Y=>uZ f (OV.ok l) (dY b B) B) (λY Y=>RB.no) (λY Y Y=>RB.no) (λY Y Y=>RB.no) (λY Y=>RB.no) (λi=>uZ f (dF (bk B i)) (dY b B) B) (λY=>RB.no) (λY=>RB.no) (λY=>RB.no) (RB.no) (λY Y Y Y=>RB.no) (λY Y Y Y Y Y=>RB.no) (λY Y Y Y Y=>RB.no) (a))
def xN(n:Nat):V->V->Mm->RB:=(@Nat.rec (λY=>(V->V->Mm->RB)) (λY Y Y=>RB.no) (λn ih=>eqS ih) (n))
def Wv:Nat:=8
def Hl(a b:V)(B:Mm):RB:=xN Wv a b B
def u0(x:V)(l:V):Mm->RB:=(V.rc (H:=(Mm->RB)) (λY=>RB.no) (λB=>RB.ok false B) (λy r ir=>λB=>neT (pI r) (Hl y x B) ir) (l))
def QW(x:V)(l:V)(B:Mm):RB:=(@Bool.rec (λY=>RB) (RB.no) (u0 x l B) (flat x))
def LY(v:V)(r:RB)(k:Mm->RO):RO:=(@RB.rec (λY=>RO) (RO.no) (λb B=>(@Bool.rec (λY=>RO) (k B) (RO.Hb v B) (b))) (r))
def Hm(y:Bool)(x:S)(l:V):Mm->RO:=(V.rk (H:=(Mm->RO)) (λY=>RO.no) (λB=>RO.Ha B) (λk v r ir=>(V.qV (H:=(Mm->RO)) (λY=>RO.no) (λt=>λB=>LY v (sure y (sEq t x) B) ir) (k))) (l))
def Hn(y:Bool)(x:Int)(l:V):Mm->RO:=(V.rk (H:=(Mm->RO)) (λY=>RO.no) (λB=>RO.Ha B) (λk v r ir=>(V.lS (H:=(Mm->RO)) (λY=>RO.no) (λt=>λB=>LY v (sure y (rX t x) B) ir) (k))) (l))
def QX(l:V)(k:Mm->RO):Mm->RO:=(V.LV (H:=(Mm->RO)) (λY=>RO.no) (λa b r=>k) (l))
def inD(x:V)(l:V):Mm->RO:=(@OS.rec (λY=>(Mm->RO)) ((@OI.rec (λY=>(Mm->RO)) (λY=>RO.no) (λi=>QX l (Hn (Dz x) i l)) (cb x))) (λt=>Hm (VN x) t l) (cu x))
def Ho(i a b d:Int):Bool:=ek (ek (mY a i) (gI i b)) (rX (Int.emod (bP i a) d) 0)
def u1(x:RB):RB:=(@RB.rec (λY=>RB) (RB.no) (λb B=>RB.ok (pT b) B) (x))
def hasB(x:RO):RB:=(@RO.rec (λY=>RB) (RB.no) (λB=>RB.ok false B) (λv B=>RB.ok true B) (x))
def aaV(a:V)(x y d:Int)(B:Mm):RB:=(@OI.rec (λY=>RB) (RB.no) (λi=>sure (Dz a) (Ho i x y d) B) (cb a))
def inR(a:V)(x y d:Int)(B:Mm):RB:=(@Bool.rec (λY=>RB) (RB.no) (aaV a x y d B) (gI 0 d))
def Ww(y:Bool)(a:S)(t:S)(B:Mm):RB:=(@List.rec Nat (λY=>RB) (RB.no) (λc r Y=>(@List.rec Nat (λY=>RB) (sure y (z5 c t) B) (λY Y Y=>RB.no) (r))) (a))
def inS(y:Bool)(a:V)(t:S)(B:Mm):RB:=(@OS.rec (λY=>RB) (RB.no) (λs=>Ww (ek y (VN a)) s t B) (cu a))
def inO(a:V)(o:OO)(B:Mm):RB:=(@OO.rec (λY=>RB) (RB.no) (λo=>(@O.rec (λY=>RB) (λl=>QW a l B) (λl=>QW a l B) (λY Y=>RB.no) (λl=>hasB (inD a l B)) (RB.no) (o))) (o))
def Wx(a b:V)(B:Mm):RB:=(@V.rec (λY=>RB) (RB.no) (λY=>RB.no) (λY=>RB.no) (λY=>RB.no) (λY Y=>RB.no) (λt=>inS true a t B) (λt=>inS false a t B) (λY=>RB.no) (λl Y=>QW a l B) (λl Y=>QW a l B) (λl Y=>hasB (inD a l B)) (λY Y Y=>RB.no) (λx y d=>inR a x y d B) (λY Y=>RB.no) (λi=>inO a (bk B i) B) (λY=>RB.no) (λY=>RB.no) (λY=>RB.no) (RB.no) (λY Y Y Y=>RB.no) (λY Y Y Y Y Y=>RB.no) (λY Y Y Y Y=>RB.no) (b))
def isV(a b:V)(B:Mm):RB:=(V.rW (H:=RB) (RB.no) (RB.ok (isN a) B) (b))
def Hp(r:Int->Int->Bool)(a b:V)(i:Int)(B:Mm):RB:=(@OI.rec (λY=>RB) (RB.no) (λj=>sure (both a b) (r i j) B) (cb b))
def FI(r:Int->Int->Bool)(a b:V)(B:Mm):RB:=(@OI.rec (λY=>RB) (RB.no) (λi=>Hp r a b i B) (cb a))
def leS(s:S)(a b:V)(B:Mm):RB:=(@OS.rec (λY=>RB) (RB.no) (λt=>sure (xh a b) (FG s t) B) (cu b))
def leV(a b:V)(B:Mm):RB:=(@OS.rec (λY=>RB) (FI mY a b B) (λs=>leS s a b B) (cu a))
def fy(op:xg)(a b:V)(B:Mm):RB:=(@xg.rec (λY=>RB) (Hl a b B) (u1 (Hl a b B)) (FI gI a b B) (leV a b B) (FI BZ a b B) (FI LX a b B) (Wx a b B) (u1 (Wx a b B)) (isV a b B) (u1 (isV a b B)) (op))
def qW(v:V)(B:Mm):RB:=(@V.rec (λY=>RB) (RB.no) (λb=>RB.ok b B) (λY=>RB.no) (λY=>RB.no) (λY Y=>RB.no) (λY=>RB.no) (λY=>RB.no) (λb=>ask b B) (λY Y=>RB.no) (λY Y=>RB.no) (λY Y=>RB.no) (λY Y Y=>RB.no) (λY Y Y=>RB.no) (λY Y=>RB.no) (λY=>RB.no) (λY=>RB.no) (λY=>RB.no) (λY=>RB.no) (RB.no) (λY Y Y Y=>RB.no) (λY Y Y Y Y Y=>RB.no) (λY Y Y Y Y=>RB.no) (v))
def z7(i j:Int):Int:=Int.mul i (ab (Nat.pow 2 (dz j)))
def B3(i j:Int):Int:=lB i (ab (Nat.pow 2 (dz j)))
def mF(a b:Int):Int:=(@Int.rec (λY=>Int) (λm=>(@Int.rec (λY=>Int) (λn=>ab (lM m n)) (λn=>ab (lL m (lM m n))) (b))) (λm=>(@Int.rec (λY=>Int) (λn=>ab (lL n (lM n m))) (λn=>d7 (Nat.lor m n)) (b))) (a))
def iOr(a b:Int):Int:=(@Int.rec (λY=>Int) (λm=>(@Int.rec (λY=>Int) (λn=>ab (Nat.lor m n)) (λn=>d7 (lL n (lM n m))) (b))) (λm=>(@Int.rec (λY=>Int) (λn=>d7 (lL m (lM m n))) (λn=>d7 (lM m n)) (b))) (a))
def fR(i:Int):Int:=(@Int.rec (λY=>Int) (λn=>ab n) (λn=>ab (aZ n)) (i))
def binI(op:hV)(i j:Int):Int:=(@hV.rec (λY=>Int) (aS i j) (bP i j) (Int.mul i j) (lB i j) (bw i j) (z7 i j) (B3 i j) (mF i j) (iOr i j) (op))
def low(i:Int):Bool:=ek (gI (d7 999999) i) (gI i 1000000)
def zb(op:hV)(j:Int):Bool:=(@hV.rec (λY=>Bool) (true) (true) (true) (pT (rX j 0)) (pT (rX j 0)) (ek (mY 0 j) (mY j 64)) (mY 0 j) (true) (true) (op))
def mid(i:Int):Bool:=ek (gI (d7 4611686018427387903) i) (gI i 4611686018427387904)
def BP(op:hV)(i j:Int):Bool:=(@hV.rec (λY=>Bool) (true) (true) (ek (mid i) (mid j)) (low j) (true) (mid i) (true) (true) (true) (op))
def big(op:hV):Bool:=(@hV.rec (λY=>Bool) (false) (false) (true) (true) (false) (true) (false) (false) (false) (op))
def m9(p:Bool)(B:Mm):Mm:=(@Mm.rec (λY=>Mm) (λs h o=>Mm.mk s h (cf (p=true) o)) (B))
def jg(o:O)(B:Mm):RE:=(@Mm.rec (λY=>RE) (λs h p=>RE.ok (V.loc (kB s)) (Mm.mk (mE s o) h p)) (B))
def u5(op:hV)(a b:V)(i j:Int)(B:Mm):RE:=RE.ok (VO op a b (binI op i j)) B
def pJ(op:hV)(a b:V)(i j:Int)(B:Mm):RE:=(@Bool.rec (λY=>RE) ((@Bool.rec (λY=>RE) (u5 op a b i j B) (u5 op a b i j (m9 (BP op i j) B)) (big op))) ((@Bool.rec (λY=>RE) (RE.no) (u5 op a b i j B) (BP op i j))) (both a b))
def z8(op:hV)(a b:V)(i j:Int)(B:Mm):RE:=(@Bool.rec (λY=>RE) (pJ op a b i j (m9 (zb op j) B)) ((@Bool.rec (λY=>RE) (RE.no) (pJ op a b i j B) (zb op j))) (Dz b))
def LZ(op:hV)(a b:V)(i:Int)(B:Mm):RE:=(@OI.rec (λY=>RE) (RE.no) (λj=>z8 op a b i j B) (cb b))
def cY(s:S):Bool:=bB (j5 s) 1000000
def FJ(y:Bool)(s:S)(B:Mm):RE:=(@Bool.rec (λY=>RE) (RE.ok (V.ak s) (m9 (cY s) B)) ((@Bool.rec (λY=>RE) (RE.no) (RE.ok (V.str s) B) (cY s))) (y))
def L0(op:hV)(a b:V)(s:S)(B:Mm):RE:=(@OS.rec (λY=>RE) (RE.no) (λt=>(@hV.rec (λY=>RE) (FJ (xh a b) (iU s t) B) (RE.no) (RE.no) (RE.no) (RE.no) (RE.no) (RE.no) (RE.no) (RE.no) (op))) (cu b))
def bF(l:V):Bool:=bB (aO l) 10000
def iV(l:V)(B:Mm):RE:=(@Bool.rec (λY=>RE) (RE.no) (jg (O.list l) B) (bF l))
def z9(l:V)(B:Mm):RE:=(@Bool.rec (λY=>RE) (RE.no) (RE.ok (V.tup l) B) (bF l))
def Wy(op:hV)(l:V)(b:V)(B:Mm):RE:=(V.Dx (H:=RE) (RE.no) (λm=>(@hV.rec (λY=>RE) (z9 (a_ l m) B) (RE.no) (RE.no) (RE.no) (RE.no) (RE.no) (RE.no) (RE.no) (RE.no) (op))) (b))
def Hq(l:V)(m:OV)(B:Mm):RE:=(@OV.rec (λY=>RE) (RE.no) (λm=>iV (a_ l m) B) (m))
def Wz(op:hV)(l:V)(b:V)(B:Mm):RE:=(@hV.rec (λY=>RE) (Hq l (dY b B) B) (RE.no) (RE.no) (RE.no) (RE.no) (RE.no) (RE.no) (RE.no) (RE.no) (op))
def Hr(op:hV)(l:OV)(b:V)(B:Mm):RE:=(@OV.rec (λY=>RE) (RE.no) (λl=>Wz op l b B) (l))
def rY(op:hV)(a b:V)(B:Mm):RE:=(@V.rec (λY=>RE) (RE.no) (λY=>RE.no) (λi=>LZ op (V.int i) b i B) (λi=>LZ op (V.sym i) b i B) (λx k=>LZ op (V.rV x k) b (aS x k) B) (λs=>L0 op (V.str s) b s B) (λs=>L0 op (V.ak s) b s B) (λY=>RE.no) (λl Y=>Wy op l b B) (λl Y=>Hr op (OV.ok l) b B) (λY Y=>RE.no) (λY Y Y=>RE.no) (λY Y Y=>RE.no) (λY Y=>RE.no) (λi=>Hr op (dF (bk B i)) b B) (λY=>RE.no) (λY=>RE.no) (λY=>RE.no) (RE.no) (λY Y Y Y=>RE.no) (λY Y Y Y Y Y=>RE.no) (λY Y Y Y Y=>RE.no) (a))
def ze(v:OV)(B:Mm):RE:=(@OV.rec (λY=>RE) (RE.no) (λv=>RE.ok v B) (v))
def L1(x:RO):RE:=(@RO.rec (λY=>RE) (RE.no) (λB=>RE.no) (λv B=>RE.ok v B) (x))
def FK(l:V)(i:V)(B:Mm):RE:=(V.lS (H:=RE) (RE.no) (λk=>(@Bool.rec (λY=>RE) (RE.no) (ze (eW l (VM (aO l) k)) B) (low k))) (i))
def Hc(y:Bool)(c:List Nat):OV:=(@List.rec Nat (λY=>OV) (OV.no) (λa r Y=>OV.ok (DA y (cf a []))) (c))
def L2(s:S)(j:Int):Bool:=ek (low j) (ek (mY 0 j) (gI j (ab (j5 s))))
def DC(s:S)(j:Int)(B:Mm):RE:=RE.ok (V.ak (mB s (dz j))) (m9 (L2 s j) B)
def Hs(y:Bool)(s:S)(i:V)(B:Mm):RE:=(@V.rec (λY=>RE) (RE.no) (λY=>RE.no) (λk=>(@Bool.rec (λY=>RE) (RE.no) (ze (Hc y (mB s (VM (j5 s) k))) B) (low k))) (λj=>DC s j B) (λa k=>DC s (aS a k) B) (λY=>RE.no) (λY=>RE.no) (λY=>RE.no) (λY Y=>RE.no) (λY Y=>RE.no) (λY Y=>RE.no) (λY Y Y=>RE.no) (λY Y Y=>RE.no) (λY Y=>RE.no) (λY=>RE.no) (λY=>RE.no) (λY=>RE.no) (λY=>RE.no) (RE.no) (λY Y Y Y=>RE.no) (λY Y Y Y Y Y=>RE.no) (λY Y Y Y Y=>RE.no) (i))
def sZ(l:V)(n:Nat):V:=(@OV.rec (λY=>V) (V.none) (λv=>v) (eW l n))
def BQ(l:V)(j:Int):Bool:=ek (low j) (ek (mY 0 j) (gI j (ab (aO l))))
def DD(l:V)(i:V)(B:Mm):RE:=(@OI.rec (λY=>RE) (RE.no) (λj=>RE.ok (sZ l (dz j)) (m9 (BQ l j) B)) (cb i))
def DE(l:V)(i:V)(B:Mm):RE:=(V.lS (H:=RE) (DD l i B) (λk=>FK l i B) (i))
def Ht(o:OO)(i:V)(B:Mm):RE:=(@OO.rec (λY=>RE) (RE.no) (λo=>(@O.rec (λY=>RE) (λl=>DE l i B) (λl=>DD l i B) (λY Y=>RE.no) (λl=>L1 (inD i l B)) (RE.no) (o))) (o))
def qX(a i:V)(B:Mm):RE:=(@V.rec (λY=>RE) (RE.no) (λY=>RE.no) (λY=>RE.no) (λY=>RE.no) (λY Y=>RE.no) (λs=>Hs true s i B) (λs=>Hs false s i B) (λY=>RE.no) (λl Y=>FK l i B) (λl Y=>DE l i B) (λl Y=>L1 (inD i l B)) (λY Y Y=>RE.no) (λY Y Y=>RE.no) (λY Y=>RE.no) (λk=>Ht (bk B k) i B) (λY=>RE.no) (λY=>RE.no) (λY=>RE.no) (RE.no) (λY Y Y Y=>RE.no) (λY Y Y Y Y Y=>RE.no) (λY Y Y Y Y=>RE.no) (a))
inductive Bd:Type where|no|at (i:Int)|sy (i:Int)
noncomputable def Bd.ctorIdx(v:Bd):Nat:=@Bd.casesOn (λY=>Nat) v 0 (λY=>1) (λY=>2)
def QY(b:Bd):Bool:=@Bd.rec (λY=>Bool) true (λY=>true) (λY=>false) b
def hiV(l:V)(b:Bd):V:=@Bd.rec (λY=>V) l (λi=>pH (at_ (aO l) i) l) (λY=>l) b
def loV(n:Nat)(l:V)(b:Bd):V:=@Bd.rec (λY=>V) l (λi=>Pt (at_ n i) l) (λY=>l) b
def aaW(l:V)(lo hi:Bd):V:=loV (aO l) (hiV l hi) lo
def hiS(l:S)(b:Bd):S:=@Bd.rec (λY=>S) l (λi=>oq (at_ (j5 l) i) l) (λi=>oq (dz i) l) b
def loS(n:Nat)(l:S)(b:Bd):S:=@Bd.rec (λY=>S) l (λi=>z6 (at_ n i) l) (λi=>z6 (dz i) l) b
def Hu(l:S)(lo hi:Bd):S:=loS (j5 l) (hiS l hi) lo
def L3(b:Bd)(B:Mm):Mm:=@Bd.rec (λY=>Mm) B (λY=>B) (λi=>m9 (mY 0 i) B) b
def slL(l:OV)(lo hi:Bd)(B:Mm):RE:=(@OV.rec (λY=>RE) (RE.no) (λl=>(@Bool.rec (λY=>RE) (RE.no) (iV (aaW l lo hi) B) (ek (ek (QY lo) (QY hi)) (bF l)))) (l))
def slS(y:Bool)(s:S)(lo hi:Bd)(B:Mm):RE:=FJ (ek y (ek (QY lo) (QY hi))) (Hu s lo hi) (L3 lo (L3 hi B))
def LK(lo hi:Bd)(a:V)(B:Mm):RE:=(@V.rec (λY=>RE) (RE.no) (λY=>RE.no) (λY=>RE.no) (λY=>RE.no) (λY Y=>RE.no) (λs=>slS true s lo hi B) (λs=>slS false s lo hi B) (λY=>RE.no) (λY Y=>RE.no) (λl Y=>slL (OV.ok l) lo hi B) (λY Y=>RE.no) (λY Y Y=>RE.no) (λY Y Y=>RE.no) (λY Y=>RE.no) (λi=>slL (dF (bk B i)) lo hi B) (λY=>RE.no) (λY=>RE.no) (λY=>RE.no) (RE.no) (λY Y Y Y=>RE.no) (λY Y Y Y Y Y=>RE.no) (λY Y Y Y Y=>RE.no) (a))
def Px(a:V)(B:Mm):RE:=(@OV.rec (λY=>RE) (RE.no) (λl=>(@Bool.rec (λY=>RE) (RE.no) (iV (fk l V.nil) B) (bF l))) (dY a B))
def iW(f:Nat):Nat->S->S:=(@Nat.rec (λY=>(Nat->S->S)) (λY r=>r) (λf ih=>λn r=>(@Bool.rec (λY=>S) (ih (n5 n 10) (cf (Nat.add 48 (Nat.mod n 10)) r)) (cf (Nat.add 48 n) r) (a9 n 10))) (f))
def fS(i:Int):S:=(@Int.rec (λY=>S) (λn=>iW (aZ n) n []) (λn=>cf 45 (iW (aZ (aZ n)) (aZ n) [])) (i))
def Py(l:V):Bool:=(V.rc (H:=Bool) (false) (true) (λa r ir=>(@Bool.rec (λY=>Bool) (false) (ir) (VN a))) (l))
def kH(a:OS)(b:OS):OS:=(@OS.rec (λY=>OS) (OS.no) (λa=>(@OS.rec (λY=>OS) (OS.no) (λb=>OS.ok (iU a b)) (b))) (a))
def joinR(d:S)(l:V):OS:=(V.rc (H:=OS) (OS.no) (OS.ok []) (λa r ir=>kH (OS.ok d) (kH (cu a) ir)) (l))
def xi(d:S)(l:V):OS:=(V.z4 (H:=OS) (OS.no) (OS.ok []) (λa r=>kH (cu a) (joinR d r)) (l))
def Hv(k:Nat)(r:RB)(g:Nat->Mm->RE):RE:=(@RB.rec (λY=>RE) (RE.no) (λb B=>(@Bool.rec (λY=>RE) (g (aZ k) B) (RE.ok (V.int (ab k)) B) (b))) (r))
def idxOf(x:V)(l:V):Nat->Mm->RE:=(V.rc (H:=(Nat->Mm->RE)) (λY Y=>RE.no) (λY Y=>RE.no) (λy r ir=>λk B=>Hv k (Hl y x B) ir) (l))
def L4(l:V)(v:V)(B:Mm):RE:=(@Bool.rec (λY=>RE) (RE.no) (RE.ok v B) (bF l))
def L5(y:Bool)(s:S)(B:Mm):RE:=(@Bool.rec (λY=>RE) (RE.ok (V.sym (ab (j5 s))) (m9 (cY s) B)) ((@Bool.rec (λY=>RE) (RE.no) (RE.ok (V.int (ab (j5 s))) B) (cY s))) (y))
def Hw(o:OO)(B:Mm):RE:=(@OO.rec (λY=>RE) (RE.no) (λo=>(@O.rec (λY=>RE) (λl=>L4 l (V.int (ab (aO l))) B) (λl=>RE.ok (V.sym (ab (aO l))) (m9 (bF l) B)) (λY Y=>RE.no) (λY=>RE.no) (RE.no) (o))) (o))
def WA(v:V)(B:Mm):RE:=(@V.rec (λY=>RE) (RE.no) (λY=>RE.no) (λY=>RE.no) (λY=>RE.no) (λY Y=>RE.no) (λs=>L5 true s B) (λs=>L5 false s B) (λY=>RE.no) (λl Y=>L4 l (V.int (ab (aO l))) B) (λl Y=>L4 l (V.int (ab (aO l))) B) (λY Y=>RE.no) (λY Y Y=>RE.no) (λY Y Y=>RE.no) (λY Y=>RE.no) (λi=>Hw (bk B i) B) (λY=>RE.no) (λY=>RE.no) (λY=>RE.no) (RE.no) (λY Y Y Y=>RE.no) (λY Y Y Y Y Y=>RE.no) (λY Y Y Y Y=>RE.no) (v))
def L6(f:Int->Int)(v:V)(B:Mm):RE:=(@V.rec (λY=>RE) (RE.no) (λY=>RE.no) (λi=>RE.ok (V.int (f i)) B) (λi=>RE.ok (V.sym (f i)) B) (λY Y=>RE.no) (λY=>RE.no) (λY=>RE.no) (λY=>RE.no) (λY Y=>RE.no) (λY Y=>RE.no) (λY Y=>RE.no) (λY Y Y=>RE.no) (λY Y Y=>RE.no) (λY Y=>RE.no) (λY=>RE.no) (λY=>RE.no) (λY=>RE.no) (λY=>RE.no) (RE.no) (λY Y Y Y=>RE.no) (λY Y Y Y Y Y=>RE.no) (λY Y Y Y Y=>RE.no) (v))
def WB(v:V)(B:Mm):RE:=(@V.rec (λY=>RE) (RE.no) (λY=>RE.no) (λi=>(@Bool.rec (λY=>RE) (RE.no) (RE.ok (V.str (fS i)) B) (low i))) (λi=>RE.ok (V.ak (fS i)) (m9 (low i) B)) (λa k=>RE.ok (V.ak (fS (aS a k))) (m9 (low (aS a k)) B)) (λs=>RE.ok (V.str s) B) (λs=>RE.ok (V.ak s) B) (λY=>RE.no) (λY Y=>RE.no) (λY Y=>RE.no) (λY Y=>RE.no) (λY Y Y=>RE.no) (λY Y Y=>RE.no) (λY Y=>RE.no) (λY=>RE.no) (λY=>RE.no) (λY=>RE.no) (λY=>RE.no) (RE.no) (λY Y Y Y=>RE.no) (λY Y Y Y Y Y=>RE.no) (λY Y Y Y Y=>RE.no) (v))
def aaX(y:Bool)(c:Nat):V:=(@Bool.rec (λY=>V) (V.sym (ab c)) (V.int (ab c)) (y))
def QZ(y:Bool)(s:S)(B:Mm):RE:=(@List.rec Nat (λY=>RE) (RE.no) (λc r Y=>(@List.rec Nat (λY=>RE) (RE.ok (aaX y c) B) (λY Y Y=>RE.no) (r))) (s))
def WC(v:V)(B:Mm):RE:=(@V.rec (λY=>RE) (RE.no) (λY=>RE.no) (λY=>RE.no) (λY=>RE.no) (λY Y=>RE.no) (λs=>QZ true s B) (λs=>QZ false s B) (λY=>RE.no) (λY Y=>RE.no) (λY Y=>RE.no) (λY Y=>RE.no) (λY Y Y=>RE.no) (λY Y Y=>RE.no) (λY Y=>RE.no) (λY=>RE.no) (λY=>RE.no) (λY=>RE.no) (λY=>RE.no) (RE.no) (λY Y Y Y=>RE.no) (λY Y Y Y Y Y=>RE.no) (λY Y Y Y Y=>RE.no) (v))
def aaY(y:Bool)(i:Int)(B:Mm):RE:=(@Int.rec (λY=>RE) (λc=>(@Bool.rec (λY=>RE) (RE.no) (RE.ok (DA y (cf c [])) B) (a9 c 128))) (λY=>RE.no) (i))
def WD(v:V)(B:Mm):RE:=(V.lS (H:=RE) (RE.no) (λi=>aaY true i B) (v))
def Hx(v:V)(B:Mm):RE:=RE.ok (V.G_ v) B
def WE(y:Bool)(i j d:Int)(B:Mm):RE:=(@Bool.rec (λY=>RE) (RE.no) ((@Bool.rec (λY=>RE) (RE.no) ((@Bool.rec (λY=>RE) (RE.ok (V.om i j d) (m9 (ek (mid i) (mid j)) B)) ((@Bool.rec (λY=>RE) (RE.no) (RE.ok (V.om i j d) B) (ek (mid i) (mid j)))) (y))) (low d))) (gI 0 d))
def WG(y:Bool)(i:Int)(b:V)(d:Int)(B:Mm):RE:=(@OI.rec (λY=>RE) (RE.no) (λj=>WE (ek y (Dz b)) i j d B) (cb b))
def WH(a b:V)(d:Int)(B:Mm):RE:=(@OI.rec (λY=>RE) (RE.no) (λi=>WG (Dz a) i b d B) (cb a))
def aaZ(a b c:V)(B:Mm):RE:=(V.lS (H:=RE) (RE.no) (λk=>WH a b k B) (c))
def j6(f:V->Mm->RE)(l:V)(B:Mm):RE:=(V.e8 (H:=RE) (RE.no) (λv r=>(V.j4 (H:=RE) (RE.no) (f v B) (r))) (l))
def L7(a:V)(r:V)(B:Mm):RE:=(V.z4 (H:=RE) (RE.no) (WG true 0 a 1 B) (λb t=>(V.z4 (H:=RE) (RE.no) (WH a b 1 B) (λc u=>(V.j4 (H:=RE) (RE.no) (aaZ a b c B) (u))) (t))) (r))
def Hy(l:V)(B:Mm):RE:=(V.e8 (H:=RE) (RE.no) (λa r=>L7 a r B) (l))
def wY(b:Nat)(l:V)(B:Mm):RE:=(@Nat.rec (λY=>RE) (j6 WA l B) (λb Y=>(@Nat.rec (λY=>RE) (Hy l B) (λb Y=>(@Nat.rec (λY=>RE) (j6 Hx l B) (λb Y=>(@Nat.rec (λY=>RE) (j6 (L6 fR) l B) (λb Y=>(@Nat.rec (λY=>RE) (j6 WB l B) (λb Y=>(@Nat.rec (λY=>RE) (j6 WC l B) (λb Y=>(@Nat.rec (λY=>RE) (j6 WD l B) (λb Y=>(@Nat.rec (λY=>RE) (j6 (L6 id) l B) (λb Y=>RE.no) (b))) (b))) (b))) (b))) (b))) (b))) (b))) (b))
def wZ(l:S):S->S:=(@List.rec Nat (λY=>(S->S)) (λm=>m) (λa r ih=>λm=>ih (cf a m)) (l))
def kC(y:Bool)(c:Nat)(l:S):S->V:=(@List.rec Nat (λY=>(S->V)) (λacc=>V.cons (DA y (wZ acc [])) V.nil) (λa r ih=>λacc=>(@Bool.rec (λY=>V) (ih (cf a acc)) (V.cons (DA y (wZ acc [])) (ih [])) (aC a c))) (l))
def z_(s:OL)(h:List V)(o:List Prop):RM:=(@OL.rec (λY=>RM) (RM.no) (λs=>RM.ok (Mm.mk s h o)) (s))
def upd(i:Nat)(o:O)(B:Mm):RM:=(@Mm.rec (λY=>RM) (λs h p=>z_ (lT s i o) h p) (B))
def okN(r:RM):RE:=(@RM.rec (λY=>RE) (RE.no) (λB=>RE.ok V.none B) (r))
def Q0(i:Nat)(xs:V)(ys:V)(B:Mm):RE:=(@Bool.rec (λY=>RE) (RE.no) (okN (upd i (O.list (a_ xs ys)) B)) (bF (a_ xs ys)))
def aa0(i:Nat)(o:OO)(ys:V)(B:Mm):RE:=(@OO.rec (λY=>RE) (RE.no) (λo=>(@O.rec (λY=>RE) (λxs=>Q0 i xs ys B) (λY=>RE.no) (λY Y=>RE.no) (λY=>RE.no) (RE.no) (o))) (o))
def DF(o x:V)(B:Mm):RE:=(V.uW (H:=RE) (RE.no) (λi=>aa0 i (bk B i) (V.cons x V.nil) B) (o))
def xO(y:Bool)(r:OS)(B:Mm):RE:=(@OS.rec (λY=>RE) (RE.no) (λs=>FJ y s B) (r))
def B4(y:Bool)(d:S)(l:OV)(B:Mm):RE:=(@OV.rec (λY=>RE) (RE.no) (λl=>xO ((@Bool.rec (λY=>Bool) (false) (Py l) (y))) (xi d l) B) (l))
def Hz(o x:V)(B:Mm):RE:=(V.qV (H:=RE) (RE.no) (λd=>(@Bool.rec (λY=>RE) (RE.no) (B4 true d (dY x B) B) (cY d))) (o))
def PA(y:Bool)(i:Int):V:=(@Bool.rec (λY=>V) (V.sym i) (V.int i) (y))
def Q1(y:Bool)(a:S)(t:S)(B:Mm):RE:=(@List.rec Nat (λY=>RE) (RE.no) (λc r Y=>(@List.rec Nat (λY=>RE) (RE.ok (PA y (gJ c t 0)) B) (λY Y Y=>RE.no) (r))) (a))
def Q2(o x:V)(t a:S)(B:Mm):RE:=Q1 (xh o x) a t B
def Q3(o x:V)(t:S)(a:OS)(B:Mm):RE:=(@OS.rec (λY=>RE) (RE.no) (λa=>Q2 o x t a B) (a))
def PB(o x:V)(B:Mm):RE:=(@OS.rec (λY=>RE) (RE.no) (λt=>Q3 o x t (cu x) B) (cu o))
def orD(x:RO)(e:V):RE:=(@RO.rec (λY=>RE) (RE.no) (λB=>RE.ok e B) (λv B=>RE.ok v B) (x))
def Q4(d:OV)(k e:V)(B:Mm):RE:=(@OV.rec (λY=>RE) (RE.no) (λd=>orD (inD k d B) e) (d))
def PD(o:V)(l:V)(B:Mm):RE:=(V.e8 (H:=RE) (RE.no) (λk r=>(V.z4 (H:=RE) (RE.no) (Q4 (dictOf o B) k V.none B) (λe t=>(V.j4 (H:=RE) (RE.no) (Q4 (dictOf o B) k e B) (t))) (r))) (l))
def L8(o:O)(x:V)(B:Mm):RE:=(@O.rec (λY=>RE) (λl=>(@Bool.rec (λY=>RE) (RE.no) (idxOf x l 0 B) (ek (flat x) (ek (pI l) (bF l))))) (λY=>RE.no) (λY Y=>RE.no) (λY=>RE.no) (RE.no) (o))
def L9(o:OO)(x:V)(B:Mm):RE:=(@OO.rec (λY=>RE) (RE.no) (λo=>L8 o x B) (o))
def HA(o x:V)(B:Mm):RE:=(V.uW (H:=RE) (RE.no) (λi=>L9 (bk B i) x B) (o))
def aa1(y:Bool)(c:Nat)(s:S)(B:Mm):RE:=(@Bool.rec (λY=>RE) (iV (kC y c s []) (m9 (cY s) B)) ((@Bool.rec (λY=>RE) (RE.no) (iV (kC y c s []) B) (cY s))) (y))
def L'(y:Bool)(s:S)(d:S)(B:Mm):RE:=(@List.rec Nat (λY=>RE) (RE.no) (λc r Y=>(@List.rec Nat (λY=>RE) (aa1 y c s B) (λY Y Y=>RE.no) (r))) (d))
def xP(y:Bool)(s:S)(x:V)(B:Mm):RE:=(V.qV (H:=RE) (RE.no) (λd=>L' y s d B) (x))
def HB(o x:V)(B:Mm):RE:=(@V.rec (λY=>RE) (RE.no) (λY=>RE.no) (λY=>RE.no) (λY=>RE.no) (λY Y=>RE.no) (λs=>xP true s x B) (λs=>xP false s x B) (λY=>RE.no) (λY Y=>RE.no) (λY Y=>RE.no) (λY Y=>RE.no) (λY Y Y=>RE.no) (λY Y Y=>RE.no) (λY Y=>RE.no) (λY=>RE.no) (λY=>RE.no) (λY=>RE.no) (λY=>RE.no) (RE.no) (λY Y Y Y=>RE.no) (λY Y Y Y Y Y=>RE.no) (λY Y Y Y Y=>RE.no) (o))
def lU(m:Mt)(o:V)(l:V)(B:Mm):RE:=(@Mt.rec (λY=>RE) (j6 (DF o) l B) (RE.no) (j6 (HA o) l B) (j6 (Hz o) l B) (j6 (PB o) l B) (PD o l B) (j6 (HB o) l B) (RE.no) (m))
def u6(t:List Nat):V->Env->OE:=(@List.rec Nat (λY=>(V->Env->OE)) (λl e=>(V.j4 (H:=OE) (OE.no) (OE.ok e) (l))) (λx r ih=>λl e=>(V.e8 (H:=OE) (OE.no) (λv s=>ih s (eS e x v)) (l))) (t))
abbrev Tg:=V->Env->Mm->OE
def iX(x:Nat):Tg:=λv e Y=>OE.ok (eS e x v)
def pU(t:List Nat)(l:OV)(e:Env):OE:=(@OV.rec (λY=>OE) (OE.no) (λl=>u6 t l e) (l))
def gK(t:List Nat):Tg:=λv e B=>pU t (items v B) e
def xj(v:OV):RD:=(@OV.rec (λY=>RD) (RD.fin) (λv=>RD.ok v) (v))
def HC(a b:Int)(k:Int):RD:=(@Bool.rec (λY=>RD) (RD.fin) (RD.ok (V.int k)) (gI k b))
def WI(a b d:Int)(k:Nat):RD:=(@Bool.rec (λY=>RD) (RD.no) (HC a b (aS a (ab k))) (rX d 1))
def HD(k:Nat)(v:OV):RD:=(@OV.rec (λY=>RD) (RD.fin) (λv=>RD.ok (V.tup (V.cons (V.int (ab k)) (V.cons v V.nil)))) (v))
def VQ(k:Nat)(l:OV):RD:=(@OV.rec (λY=>RD) (RD.no) (λl=>HD k (eW l k)) (l))
def drD(l:V):RD:=(V.j4 (H:=RD) (RD.no) (RD.fin) (l))
def Q5(o:OO)(k:Nat):RD:=(@OO.rec (λY=>RD) (RD.no) (λo=>(@O.rec (λY=>RD) (λl=>xj (eW l k)) (λl=>xj (eW l k)) (λY Y=>RD.no) (λl=>(@Nat.rec (λY=>RD) (drD l) (λn Y=>RD.no) (k))) (RD.no) (o))) (o))
def drawn(v:V)(k:Nat)(B:Mm):RD:=(@V.rec (λY=>RD) (RD.no) (λY=>RD.no) (λY=>RD.no) (λY=>RD.no) (λY Y=>RD.no) (λs=>xj (Hc true (mB s k))) (λs=>xj (Hc false (mB s k))) (λY=>RD.no) (λl Y=>xj (eW l k)) (λl Y=>xj (eW l k)) (λY Y=>RD.no) (λY Y Y=>RD.no) (λa b d=>WI a b d k) (λw Y=>VQ k (dY w B)) (λi=>Q5 (bk B i) k) (λY=>RD.no) (λY=>RD.no) (λY=>RD.no) (RD.no) (λY Y Y Y=>RD.no) (λY Y Y Y Y Y=>RD.no) (λY Y Y Y Y=>RD.no) (v))
abbrev Kc:=Nat->V->Mm->RE
abbrev C:=Kc->Env->Mm->RE
abbrev CS:=Kc->Env->Mm->RS
structure Fn where
 ps:List Nat
 body:CS
structure Cl where
 LL:Nat->Nat
def cw(r:RE)(k:V->Mm->RE):RE:=(@RE.rec (λY=>RE) (RE.no) (λv B=>k v B) (r))
def iY(r:RE)(k:V->Mm->RS):RS:=(@RE.rec (λY=>RS) (RS.no) (λv B=>k v B) (r))
def u7(r:RB):RE:=(@RB.rec (λY=>RE) (RE.no) (λb B=>RE.ok (V.bool b) B) (r))
def kE(r:RE):RB:=(@RE.rec (λY=>RB) (RB.no) (λv B=>qW v B) (r))
def xQ(r:RB)(a b:Mm->RE):RE:=(@RB.rec (λY=>RE) (RE.no) (λc B=>(@Bool.rec (λY=>RE) (b B) (a B) (c))) (r))
def Aa(r:RB)(a b:Mm->RS):RS:=(@RB.rec (λY=>RS) (RS.no) (λc B=>(@Bool.rec (λY=>RS) (b B) (a B) (c))) (r))
def cC(v:V):C:=λY Y B=>RE.ok v B
def cV(x:Nat):C:=λY e B=>ze (a8 e x) B
def et(op:hV)(a b:C):C:=λK e B=>cw (a K e B) λv B=>cw (b K e B) (rY op v)
def L_(a:C):C:=λK e B=>cw (a K e B) (L6 Int.neg)
def xR(a:C):C:=λK e B=>u7 (u1 (kE (a K e B)))
def u9(a b:C):C:=λK e B=>xQ (kE (a K e B)) (b K e) (RE.ok (V.bool false))
def WJ(a b:C):C:=λK e B=>xQ (kE (a K e B)) (RE.ok (V.bool true)) (b K e)
def u_(op:xg)(a b:V)(B:Mm):RE:=u7 (fy op a b B)
def gd(op:xg)(a b:C):C:=λK e B=>cw (a K e B) λv B=>cw (b K e B) (u_ op v)
def mZ(o1 o2:xg)(a b c:C):C:=λK e B=>cw (a K e B) λv B=>cw (b K e B) λw B=>xQ (fy o1 v w B) (λB=>cw (c K e B) (u_ o2 w)) (RE.ok (V.bool false))
def w0(c a b:C):C:=λK e B=>xQ (kE (c K e B)) (a K e) (b K e)
def ck:C:=λY Y B=>RE.ok V.nil B
def aH(a r:C):C:=λK e B=>cw (a K e B) λv B=>cw (r K e B) λl B=>RE.ok (V.cons v l) B
def B5:C:=λY Y B=>RE.ok V.nil B
def DG(k v r:C):C:=λK e B=>cw (k K e B) λa B=>cw (v K e B) λb B=>cw (r K e B) λl B=>RE.ok (V.kv a b l) B
def rZ(f:Nat)(l:C):C:=λK e B=>cw (l K e B) (K f)
def jE(b:Nat)(l:C):C:=λK e B=>cw (l K e B) (wY b)
def HE(v:V)(r:RE):RE:=(@RE.rec (λY=>RE) (RE.no) (λu B=>(V.rW (H:=RE) (RE.no) (RE.ok v B) (u))) (r))
def WK(f:Nat)(l:V)(K:Kc)(v:V)(B:Mm):RE:=HE v (K f (V.cons v l) B)
def HF(c f:Nat)(l:C):C:=λK e B=>cw (l K e B) λl B=>cw (jg (O.inst c V.nil) B) (WK f l K)
def Q6(K:Kc)(f:V)(l:V)(B:Mm):RE:=(V.aaU (H:=RE) (RE.no) (λf=>K f l B) (f))
def HG(f l:C):C:=λK e B=>cw (f K e B) λf B=>cw (l K e B) (Q6 K f)
def pick(t:List (Nat×Nat))(c:Nat)(K:Kc)(l:V)(B:Mm):RE:=@List.rec (Nat×Nat) (λY=>RE) RE.no (λp Y r=>(@Bool.rec (λY=>RE) (r) (K p.2 l B) (aC p.1 c))) t
def DH(v:OV)(r:RE):RE:=(@OV.rec (λY=>RE) (r) (λx=>RE.no) (v))
def DI(t:List (Nat×Nat))(c:Nat)(o:V)(K:Kc)(l:V)(B:Mm):RE:=pick t c K (V.cons o l) B
def HH(m:Nat)(t:List (Nat×Nat))(o:V)(l:C)(K:Kc)(e:Env)(B:Mm):RE:=(@OA.rec (λY=>RE) (RE.no) (λc a=>DH (gc a m) (cw (l K e B) (DI t c o K))) (attrs o B))
def pK(m:Nat)(t:List (Nat×Nat))(o l:C):C:=λK e B=>cw (o K e B) λo B=>HH m t o l K e B
def DJ(o:OO):Bool:=(@OO.rec (λY=>Bool) (false) (λo=>(@O.rec (λY=>Bool) (λl=>true) (λY=>false) (λY Y=>false) (λY=>false) (false) (o))) (o))
def kL(o:V)(B:Mm):Bool:=(V.uW (H:=Bool) (false) (λi=>DJ (bk B i)) (o))
def kS(o:V):Bool:=(@OS.rec (λY=>Bool) (false) (λs=>true) (cu o))
def kD(o:V)(B:Mm):Bool:=(@OV.rec (λY=>Bool) (false) (λs=>true) (dictOf o B))
def Q7(m:Mt)(o:V)(B:Mm):Bool:=(@Mt.rec (λY=>Bool) (kL o B) (false) (kL o B) (kS o) (kS o) (kD o B) (kS o) (false) (m))
def bm2(m:Mt)(o:V)(l:C)(K:Kc)(e:Env)(B:Mm):RE:=(@Bool.rec (λY=>RE) (RE.no) (cw (l K e B) (lU m o)) (Q7 m o B))
def FN(m:Mt)(o l:C):C:=λK e B=>cw (o K e B) λo B=>bm2 m o l K e B
def xk(m:Nat)(o:V)(B:Mm):RE:=(@OA.rec (λY=>RE) (RE.no) (λc a=>ze (gc a m) B) (attrs o B))
def dZ(o:C)(m:Nat):C:=λK e B=>cw (o K e B) (xk m)
def h_(a i:C):C:=λK e B=>cw (a K e B) λa B=>cw (i K e B) (qX a)
def WL(v:V)(k:Bd->RE):RE:=(@V.rec (λY=>RE) (RE.no) (λY=>RE.no) (λi=>k (Bd.at i)) (λi=>k (Bd.sy i)) (λx y=>k (Bd.sy (aS x y))) (λY=>RE.no) (λY=>RE.no) (λY=>RE.no) (λY Y=>RE.no) (λY Y=>RE.no) (λY Y=>RE.no) (λY Y Y=>RE.no) (λY Y Y=>RE.no) (λY Y=>RE.no) (λY=>RE.no) (λY=>RE.no) (λY=>RE.no) (λY=>RE.no) (RE.no) (λY Y Y Y=>RE.no) (λY Y Y Y Y Y=>RE.no) (λY Y Y Y Y=>RE.no) (v))
def cSl(a:C):C:=λK e B=>cw (a K e B) (LK Bd.no Bd.no)
def Ma(a lo:C):C:=λK e B=>cw (a K e B) λa B=>cw (lo K e B) λl B=>WL l λi=>LK i Bd.no a B
def HI(a hi:C):C:=λK e B=>cw (a K e B) λa B=>cw (hi K e B) λh B=>WL h λi=>LK Bd.no i a B
def vb(a lo hi:C):C:=λK e B=>cw (a K e B) λa B=>cw (lo K e B) λl B=>cw (hi K e B) λh B=>WL l λi=>WL h λj=>LK i j a B
def Q8(a:C):C:=λK e B=>cw (a K e B) Px
def aa2(l:V)(B:Mm):RE:=z9 l B
def s_(l:V)(B:Mm):RE:=iV l B
def qY(s:S)(l:V):Bool:=(V.rk (H:=Bool) (false) (false) (λk v r ir=>(V.qV (H:=Bool) (true) (λt=>(@Bool.rec (λY=>Bool) (ir) (true) (sEq t s))) (k))) (l))
def DK(l:V):Bool:=(V.rk (H:=Bool) (false) (true) (λk v r ir=>(V.qV (H:=Bool) (false) (λt=>(@Bool.rec (λY=>Bool) (ir) (false) (qY t r))) (k))) (l))
def qZ(s:Int)(l:V):Bool:=(V.rk (H:=Bool) (false) (false) (λk v r ir=>(V.lS (H:=Bool) (true) (λt=>(@Bool.rec (λY=>Bool) (ir) (true) (rX t s))) (k))) (l))
def Mb(l:V):Bool:=(V.rk (H:=Bool) (false) (true) (λk v r ir=>(V.lS (H:=Bool) (false) (λt=>(@Bool.rec (λY=>Bool) (ir) (false) (qZ t r))) (k))) (l))
def Q9(l:V)(B:Mm):RE:=(@Bool.rec (λY=>RE) ((@Bool.rec (λY=>RE) (RE.no) (jg (O.dict l) B) (Mb l))) (jg (O.dict l) B) (DK l))
def Q'(l:C)(n:Nat):C:=λK e B=>cw (l K e B) λl B=>iV (FH l n) B
def pV(l:C):C:=λK e B=>cw (l K e B) aa2
def B6(l:C):C:=λK e B=>cw (l K e B) s_
def FO(l:C):C:=λK e B=>cw (l K e B) Q9
def turns:Nat:=600
def kI(x:C)(K:Kc)(r:OE)(B:Mm)(k:V->Mm->RE):RE:=(@OE.rec (λY=>RE) (RE.no) (λe=>cw (x K e B) k) (r))
def dT(x:C)(t:Tg)(v:V)(K:Kc)(e:Env)(n:Nat):Nat->V->Mm->RE:=
 (@Nat.rec (λY=>(Nat->V->Mm->RE)) (λY Y Y=>RE.no) (λn ih=>λk acc B=>(@RD.rec (λY=>RE) (RE.no) (s_ (fk acc V.nil) B) (λy=>kI x K (t y e B) B λz B=>ih (aZ k) (V.cons z acc) B) (drawn v k B))) (n))
def jn(t:List Nat)(e:Env):Env:=(@Env.rec (λY=>Env) (Env.nil) (λy u r ir=>(@Bool.rec (λY=>Env) (Env.cons y u ir) (ir) (z5 y t))) (e))
def j7(ts:List Nat)(x:C)(t:Tg)(it:C):C:=λK e B=>cw (it K e B) λv B=>dT x t v K (jn ts e) turns 0 V.nil B
def m_(x:Nat)(a:C):CS:=λK e B=>iY (a K e B) λv B=>RS.dw (eS e x v) B
def Md(r:OE)(B:Mm):RS:=(@OE.rec (λY=>RS) (RS.no) (λe=>RS.dw e B) (r))
def w1(t:Tg)(a:C):CS:=λK e B=>iY (a K e B) λv B=>Md (t v e B) B
def pW(e:Env)(r:RM):RS:=(@RM.rec (λY=>RS) (RS.no) (λB=>RS.dw e B) (r))
def Ab(l:V):Nat:=(V.rf (H:=Nat) (0) (0) (λm v r ir=>aZ ir) (l))
def HJ(i:Nat)(a:OA)(m:Nat)(v:V)(B:Mm):RM:=(@OA.rec (λY=>RM) (RM.no) (λc l=>(@Bool.rec (λY=>RM) (RM.no) (upd i (O.inst c (hP l m v)) B) (bB (Ab l) 900))) (a))
def FP(o:V)(m:Nat)(v:V)(B:Mm):RM:=(V.uW (H:=RM) (RM.no) (λi=>HJ i (uY (bk B i)) m v B) (o))
def Ac(o:C)(m:Nat)(a:C):CS:=λK e B=>iY (a K e B) λv B=>iY (o K e B) λo B=>pW e (FP o m v B)
def PE(k:Nat)(l:OV)(B:Mm):RM:=(@OV.rec (λY=>RM) (RM.no) (λl=>upd k (O.du l) B) (l))
def w2(l:V)(n:Nat)(v:V):V:=(@OV.rec (λY=>V) (l) (λm=>m) (m8 l n v))
def DM(k:Nat)(l i v:V)(B:Mm):RM:=(@OI.rec (λY=>RM) (RM.no) (λj=>upd k (O.du (w2 l (dz j) v)) (m9 (BQ l j) B)) (cb i))
def PF(k:Nat)(l i v:V)(B:Mm):RM:=(V.lS (H:=RM) (DM k l i v B) (λj=>(@Bool.rec (λY=>RM) (RM.no) (PE k (m8 l (dz j) v) B) (ek (low j) (mY 0 j)))) (i))
def aa3(i:V)(k:RM):RM:=(V.lS (H:=RM) (RM.no) (λj=>k) (i))
def WM(l:V)(k:RM):RM:=(V.LV (H:=RM) (RM.no) (λa b r=>k) (l))
def PG(k:Nat)(l i v:V)(r:RO):RM:=(@RO.rec (λY=>RM) (RM.no) (λB=>aa3 i (WM l ((@Bool.rec (λY=>RM) (RM.no) (upd k (O.dict (a_ l (V.kv i v V.nil))) B) (bF l))))) (λu B=>RM.no) (r))
def DN(k:Nat)(o:OO)(i v:V)(B:Mm):RM:=(@OO.rec (λY=>RM) (RM.no) (λo=>(@O.rec (λY=>RM) (λl=>PF k l i v B) (λl=>DM k l i v B) (λY Y=>RM.no) (λl=>PG k l i v (inD i l B)) (RM.no) (o))) (o))
def WN(o i v:V)(B:Mm):RM:=(V.uW (H:=RM) (RM.no) (λk=>DN k (bk B k) i v B) (o))
def sV(o i:C)(a:C):CS:=λK e B=>iY (a K e B) λv B=>iY (o K e B) λo B=>iY (i K e B) λi B=>pW e (WN o i v B)
def Q_(op:hV)(a b:V)(i:Int)(B:Mm):RE:=(@OI.rec (λY=>RE) (RE.no) (λj=>RE.ok (VO op a b (binI op i j)) B) (cb b))
def Me(op:hV)(a b:V)(B:Mm):RE:=(@OI.rec (λY=>RE) (RE.no) (λi=>Q_ op a b i B) (cb a))
def B7(op:hV)(a b:V)(B:Mm):RE:=(@hV.rec (λY=>RE) (Me hV.add a b B) (Me hV.sub a b B) (RE.no) (RE.no) (RE.no) (RE.no) (RE.no) (RE.no) (RE.no) (op))
def Ad(x:Nat)(op:hV)(a:C):CS:=λK e B=>iY (ze (a8 e x) B) λo B=>iY (a K e B) λv B=>iY (B7 op o v B) λv B=>RS.dw (eS e x v) B
def vc(o:C)(m:Nat)(op:hV)(a:C):CS:=λK e B=>iY (o K e B) λo B=>iY (xk m o B) λu B=>iY (a K e B) λv B=>iY (B7 op u v B) λv B=>pW e (FP o m v B)
def vd(a:C):CS:=λK e B=>iY (a K e B) RS.ret
def WO(v:V)(e:Env)(B:Mm):RS:=(V.rW (H:=RS) (RS.no) (RS.dw e B) (v))
def r6(a:C):CS:=λK e B=>iY (a K e B) λv B=>WO v e B
def B8(c:C)(a b:CS):CS:=λK e B=>Aa (kE (c K e B)) (a K e) (b K e)
def B9(r:RS)(k:Env->Mm->RS):RS:=(@RS.rec (λY=>RS) (RS.no) (λe B=>k e B) (λe B=>RS.brk e B) (λe B=>RS.cont e B) (λv B=>RS.ret v B) (r))
def j8(r:RS)(k:Env->Mm->RS):RS:=(@RS.rec (λY=>RS) (RS.no) (λe B=>k e B) (λe B=>RS.dw e B) (λe B=>k e B) (λv B=>RS.ret v B) (r))
def fm:CS:=λY e B=>RS.dw e B
def bI(s r:CS):CS:=λK e B=>B9 (s K e B) (r K)
def lV(c:C)(b:CS)(K:Kc)(n:Nat):Env->Mm->RS:=(@Nat.rec (λY=>(Env->Mm->RS)) (λY Y=>RS.no) (λn ih=>λe B=>Aa (kE (c K e B)) (λB=>j8 (b K e B) ih) (RS.dw e)) (n))
def B'(c:C)(b:CS):CS:=λK e B=>lV c b K turns e B
def q7(b:CS)(K:Kc)(r:OE)(B:Mm)(k:Env->Mm->RS):RS:=(@OE.rec (λY=>RS) (RS.no) (λe=>j8 (b K e B) k) (r))
def forL(t:Tg)(v:V)(b:CS)(K:Kc)(n:Nat):Nat->Env->Mm->RS:=
 (@Nat.rec (λY=>(Nat->Env->Mm->RS)) (λY Y Y=>RS.no) (λn ih=>λk e B=>(@RD.rec (λY=>RS) (RS.no) (RS.dw e B) (λy=>q7 b K (t y e B) B (ih (aZ k))) (drawn v k B))) (n))
def xS(t:Tg)(it:C)(b:CS):CS:=λK e B=>iY (it K e B) λv B=>forL t v b K turns 0 e B
def DO:CS:=λY e B=>RS.cont e B
def Ra:CS:=λY e B=>RS.brk e B
def B_(b:CS):CS:=b
def pX:CS:=λY Y Y=>RS.no
abbrev Orc:=V->Mm->RE
def Mf(r:RS):RE:=(@RS.rec (λY=>RE) (RE.no) (λe B=>RE.ok V.none B) (λe B=>RE.no) (λe B=>RE.no) (λv B=>RE.ok v B) (r))
def DP(b:CS)(K:Kc)(r:OE)(B:Mm):RE:=(@OE.rec (λY=>RE) (RE.no) (λe=>Mf (b K e B)) (r))
def aq(d:Fn)(K:Kc)(l:V)(B:Mm):RE:=@Fn.rec (λY=>RE) (λps b=>DP b K (u6 ps l Env.nil) B) d
inductive Tr (H:Type):Type where|nil|node (v:H) (l r:Tr H)
noncomputable def Tr.ctorIdx{H:Type}(v:Tr H):Nat:=@Tr.casesOn H (λY=>Nat) v 0 (λY Y Y=>1)
def Tr.get{H:Type}(d:H)(t:Tr H):Nat->H:=@Tr.rec H (λY=>Nat->H) (λY=>d) (λv Y Y il ir n=>(@Nat.rec (λY=>H) (v) (λm Y=>(@Bool.rec (λY=>H) (ir (n5 m 2)) (il (n5 m 2)) (aC (Nat.mod m 2) 0))) (n))) t
def kJ(t:Tr (Kc->V->Mm->RE))(n:Nat):Kc:=(@Nat.rec (λY=>Kc) (λY Y Y=>RE.no) (λn ih=>λf l B=>Tr.get (λY Y Y=>RE.no) t f ih l B) (n))
def gO(f:V->OV)(k:V->V)(l:V):OV:=(@OV.rec (λY=>OV) (OV.no) (λl=>OV.ok (k l)) (f l))
def dN(a b:OV)(k:V->V->V):OV:=(@OV.rec (λY=>OV) (OV.no) (λa=>(@OV.rec (λY=>OV) (OV.no) (λb=>OV.ok (k a b)) (b))) (a))
def bZ(f:V->OV)(l:V):OV:=(@V.rec (λY=>OV) (OV.no) (λY=>OV.no) (λY=>OV.no) (λY=>OV.no) (λY Y=>OV.no) (λY=>OV.no) (λY=>OV.no) (λY=>OV.no) (λY Y=>OV.no) (λY Y=>OV.no) (λY Y=>OV.no) (λY Y Y=>OV.no) (λY Y Y=>OV.no) (λY Y=>OV.no) (λY=>OV.no) (λY=>OV.no) (λY=>OV.no) (λY=>OV.no) (OV.ok V.nil) (λa r ia ir=>dN (f a) ir V.cons) (λk v r ik iv ir=>dN (f v) ir (V.kv k)) (λm v r iv ir=>dN (f v) ir (V.fld m)) (l))
def q8(f:V->OV)(o:OO):OV:=(@OO.rec (λY=>OV) (OV.no) (λo=>(@O.rec (λY=>OV) (λl=>gO (bZ f) V.lst l) (λl=>gO (bZ f) V.lst l) (λc l=>gO (bZ f) (V.xf c) l) (λl=>(V.j4 (H:=OV) (OV.no) (OV.ok (V.wX V.nil)) (l))) (OV.no) (o))) (o))
def FQ(f:V->OV)(B:Mm)(v:V):OV:=(@V.rec (λY=>OV) (OV.ok v) (λY=>OV.ok v) (λY=>OV.ok v) (λY=>OV.ok v) (λY Y=>OV.ok v) (λY=>OV.ok v) (λY=>OV.ok v) (λY=>OV.ok v) (λl Y=>gO (bZ f) V.tup l) (λl Y=>gO (bZ f) V.lst l) (λl Y=>OV.no) (λc l Y=>gO (bZ f) (V.xf c) l) (λY Y Y=>OV.ok v) (λw Y=>OV.no) (λi=>q8 f (bk B i)) (λY=>OV.ok v) (λY=>OV.ok v) (λY=>OV.ok v) (OV.no) (λa r Y Y=>OV.no) (λa b r Y Y Y=>OV.no) (λm a r Y Y=>OV.no) (v))
def cZ(n:Nat)(B:Mm):V->OV:=(@Nat.rec (λY=>(V->OV)) (λY=>OV.no) (λn ih=>FQ ih B) (n))
end
set_option tactic.hygienic true
set_option genCtorIdx true
theorem aD{p q:Prop}{G:Prop}(W:p/\q)(k:p->q->G):G:=k W.1 W.2
theorem c_{p q r:Prop}{G:Prop}(W:p/\q/\r)(k:p->q->r->G):G:=k W.1 W.2.1 W.2.2
theorem mG{p q r s:Prop}{G:Prop}(W:p/\q/\r/\s)(k:p->q->r->s->G):G:=k W.1 W.2.1 W.2.2.1 W.2.2.2
theorem aa4{p q r s t:Prop}{G:Prop}(W:p/\q/\r/\s/\t)(k:p->q->r->s->t->G):G:=k W.1 W.2.1 W.2.2.1 W.2.2.2.1 W.2.2.2.2
theorem HK{p q r s t u v:Prop}{G:Prop}(W:p/\q/\r/\s/\t/\u/\v)(k:p->q->r->s->t->u->v->G):G:=k W.1 W.2.1 W.2.2.1 W.2.2.2.1 W.2.2.2.2.1 W.2.2.2.2.2.1 W.2.2.2.2.2.2
theorem aa5{p q r s t u v w:Prop}{G:Prop}(W:p/\q/\r/\s/\t/\u/\v/\w)(k:p->q->r->s->t->u->v->w->G):G:=k W.1 W.2.1 W.2.2.1 W.2.2.2.1 W.2.2.2.2.1 W.2.2.2.2.2.1 W.2.2.2.2.2.2.1 W.2.2.2.2.2.2.2
theorem bc{H:Type}{p:H->Prop}{G:Prop}(acX:∃a,p a)(k:∀a,p a->G):G:=acX.elim λa W=>k a W
theorem aL{H:Type}{p q:H->Prop}{G:Prop}(acX:∃a,p a/\q a)(k:∀a,p a->q a->G):G:=acX.elim λa W=>k a W.1 W.2
theorem bQ{H:Type}{p q r:H->Prop}{G:Prop}(acX:∃a,p a/\q a/\r a)(k:∀a,p a->q a->r a->G):G:=acX.elim λa W=>k a W.1 W.2.1 W.2.2
theorem WQ{H:Type}{p q r s:H->Prop}{G:Prop}(acX:∃a,p a/\q a/\r a/\s a)(k:∀a,p a->q a->r a->s a->G):G:=acX.elim λa W=>k a W.1 W.2.1 W.2.2.1 W.2.2.2
theorem Mg{H β:Type}{p:H->β->Prop}{G:Prop}(acX:∃a b,p a b)(k:∀a b,p a b->G):G:=acX.elim λa acX=>acX.elim λb W=>k a b W
theorem a6{H β:Type}{p q:H->β->Prop}{G:Prop}(acX:∃a b,p a b/\q a b)(k:∀a b,p a b->q a b->G):G:=acX.elim λa acX=>acX.elim λb W=>k a b W.1 W.2
theorem bJ{H β:Type}{p q r:H->β->Prop}{G:Prop}(acX:∃a b,p a b/\q a b/\r a b)(k:∀a b,p a b->q a b->r a b->G):G:=acX.elim λa acX=>acX.elim λb W=>k a b W.1 W.2.1 W.2.2
theorem iZ{H β:Type}{p q r s:H->β->Prop}{G:Prop}(acX:∃a b,p a b/\q a b/\r a b/\s a b)(k:∀a b,p a b->q a b->r a b->s a b->G):G:=acX.elim λa acX=>acX.elim λb W=>k a b W.1 W.2.1 W.2.2.1 W.2.2.2
theorem Mh{H β:Type}{p q r s t:H->β->Prop}{G:Prop}(acX:∃a b,p a b/\q a b/\r a b/\s a b/\t a b)(k:∀a b,p a b->q a b->r a b->s a b->t a b->G):G:=acX.elim λa acX=>acX.elim λb W=>k a b W.1 W.2.1 W.2.2.1 W.2.2.2.1 W.2.2.2.2
theorem FR{H β:Type}{p q r s t u:H->β->Prop}{G:Prop}(acX:∃a b,p a b/\q a b/\r a b/\s a b/\t a b/\u a b)(k:∀a b,p a b->q a b->r a b->s a b->t a b->u a b->G):G:=acX.elim λa acX=>acX.elim λb W=>k a b W.1 W.2.1 W.2.2.1 W.2.2.2.1 W.2.2.2.2.1 W.2.2.2.2.2
theorem Rb{H β:Type}{p q r s t u v:H->β->Prop}{G:Prop}(acX:∃a b,p a b/\q a b/\r a b/\s a b/\t a b/\u a b/\v a b)(k:∀a b,p a b->q a b->r a b->s a b->t a b->u a b->v a b->G):G:=acX.elim λa acX=>acX.elim λb W=>k a b W.1 W.2.1 W.2.2.1 W.2.2.2.1 W.2.2.2.2.1 W.2.2.2.2.2.1 W.2.2.2.2.2.2
theorem WR{H β:Type}{p q r s t u v w x y z m n o:H->β->Prop}{G:Prop}(acX:∃a b,p a b/\q a b/\r a b/\s a b/\t a b/\u a b/\v a b/\w a b/\x a b/\y a b/\z a b/\m a b/\n a b/\o a b)(k:∀a b,p a b->q a b->r a b->s a b->t a b->u a b->v a b->w a b->x a b->y a b->z a b->m a b->n a b->o a b->G):G:=acX.elim λa acX=>acX.elim λb W=>k a b W.1 W.2.1 W.2.2.1 W.2.2.2.1 W.2.2.2.2.1 W.2.2.2.2.2.1 W.2.2.2.2.2.2.1 W.2.2.2.2.2.2.2.1 W.2.2.2.2.2.2.2.2.1 W.2.2.2.2.2.2.2.2.2.1 W.2.2.2.2.2.2.2.2.2.2.1 W.2.2.2.2.2.2.2.2.2.2.2.1 W.2.2.2.2.2.2.2.2.2.2.2.2.1 W.2.2.2.2.2.2.2.2.2.2.2.2.2
theorem Mi{H β γ:Type}{p q:H->β->γ->Prop}{G:Prop}(acX:∃a b c,p a b c/\q a b c)(k:∀a b c,p a b c->q a b c->G):G:=acX.elim λa acX=>acX.elim λb acX=>acX.elim λc W=>k a b c W.1 W.2
theorem WS{H β γ:Type}{p q r:H->β->γ->Prop}{G:Prop}(acX:∃a b c,p a b c/\q a b c/\r a b c)(k:∀a b c,p a b c->q a b c->r a b c->G):G:=acX.elim λa acX=>acX.elim λb acX=>acX.elim λc W=>k a b c W.1 W.2.1 W.2.2
theorem kX{H β γ:Type}{p q r s:H->β->γ->Prop}{G:Prop}(acX:∃a b c,p a b c/\q a b c/\r a b c/\s a b c)(k:∀a b c,p a b c->q a b c->r a b c->s a b c->G):G:=acX.elim λa acX=>acX.elim λb acX=>acX.elim λc W=>k a b c W.1 W.2.1 W.2.2.1 W.2.2.2
theorem HL{H β γ:Type}{p q r s t:H->β->γ->Prop}{G:Prop}(acX:∃a b c,p a b c/\q a b c/\r a b c/\s a b c/\t a b c)(k:∀a b c,p a b c->q a b c->r a b c->s a b c->t a b c->G):G:=acX.elim λa acX=>acX.elim λb acX=>acX.elim λc W=>k a b c W.1 W.2.1 W.2.2.1 W.2.2.2.1 W.2.2.2.2
theorem Rc{H β γ:Type}{p q r s t u:H->β->γ->Prop}{G:Prop}(acX:∃a b c,p a b c/\q a b c/\r a b c/\s a b c/\t a b c/\u a b c)(k:∀a b c,p a b c->q a b c->r a b c->s a b c->t a b c->u a b c->G):G:=acX.elim λa acX=>acX.elim λb acX=>acX.elim λc W=>k a b c W.1 W.2.1 W.2.2.1 W.2.2.2.1 W.2.2.2.2.1 W.2.2.2.2.2
theorem aa6{H β γ:Type}{p q r s t u v:H->β->γ->Prop}{G:Prop}(acX:∃a b c,p a b c/\q a b c/\r a b c/\s a b c/\t a b c/\u a b c/\v a b c)(k:∀a b c,p a b c->q a b c->r a b c->s a b c->t a b c->u a b c->v a b c->G):G:=acX.elim λa acX=>acX.elim λb acX=>acX.elim λc W=>k a b c W.1 W.2.1 W.2.2.1 W.2.2.2.1 W.2.2.2.2.1 W.2.2.2.2.2.1 W.2.2.2.2.2.2
theorem WT{H β γ:Type}{p q r s t u v w:H->β->γ->Prop}{G:Prop}(acX:∃a b c,p a b c/\q a b c/\r a b c/\s a b c/\t a b c/\u a b c/\v a b c/\w a b c)(k:∀a b c,p a b c->q a b c->r a b c->s a b c->t a b c->u a b c->v a b c->w a b c->G):G:=acX.elim λa acX=>acX.elim λb acX=>acX.elim λc W=>k a b c W.1 W.2.1 W.2.2.1 W.2.2.2.1 W.2.2.2.2.1 W.2.2.2.2.2.1 W.2.2.2.2.2.2.1 W.2.2.2.2.2.2.2
theorem FT{H β γ δ:Type}{p q:H->β->γ->δ->Prop}{G:Prop}(acX:∃a b c d,p a b c d/\q a b c d)(k:∀a b c d,p a b c d->q a b c d->G):G:=acX.elim λa acX=>acX.elim λb acX=>acX.elim λc acX=>acX.elim λd W=>k a b c d W.1 W.2
theorem Rf{H β γ δ:Type}{p q r:H->β->γ->δ->Prop}{G:Prop}(acX:∃a b c d,p a b c d/\q a b c d/\r a b c d)(k:∀a b c d,p a b c d->q a b c d->r a b c d->G):G:=acX.elim λa acX=>acX.elim λb acX=>acX.elim λc acX=>acX.elim λd W=>k a b c d W.1 W.2.1 W.2.2
theorem ve{H β γ δ:Type}{p q r s:H->β->γ->δ->Prop}{G:Prop}(acX:∃a b c d,p a b c d/\q a b c d/\r a b c d/\s a b c d)(k:∀a b c d,p a b c d->q a b c d->r a b c d->s a b c d->G):G:=acX.elim λa acX=>acX.elim λb acX=>acX.elim λc acX=>acX.elim λd W=>k a b c d W.1 W.2.1 W.2.2.1 W.2.2.2
theorem Mj{H β γ δ:Type}{p q r s t:H->β->γ->δ->Prop}{G:Prop}(acX:∃a b c d,p a b c d/\q a b c d/\r a b c d/\s a b c d/\t a b c d)(k:∀a b c d,p a b c d->q a b c d->r a b c d->s a b c d->t a b c d->G):G:=acX.elim λa acX=>acX.elim λb acX=>acX.elim λc acX=>acX.elim λd W=>k a b c d W.1 W.2.1 W.2.2.1 W.2.2.2.1 W.2.2.2.2
theorem vg{H β γ δ:Type}{p q r s t u:H->β->γ->δ->Prop}{G:Prop}(acX:∃a b c d,p a b c d/\q a b c d/\r a b c d/\s a b c d/\t a b c d/\u a b c d)(k:∀a b c d,p a b c d->q a b c d->r a b c d->s a b c d->t a b c d->u a b c d->G):G:=acX.elim λa acX=>acX.elim λb acX=>acX.elim λc acX=>acX.elim λd W=>k a b c d W.1 W.2.1 W.2.2.1 W.2.2.2.1 W.2.2.2.2.1 W.2.2.2.2.2
theorem aa7{H β γ δ:Type}{p q r s t u v w:H->β->γ->δ->Prop}{G:Prop}(acX:∃a b c d,p a b c d/\q a b c d/\r a b c d/\s a b c d/\t a b c d/\u a b c d/\v a b c d/\w a b c d)(k:∀a b c d,p a b c d->q a b c d->r a b c d->s a b c d->t a b c d->u a b c d->v a b c d->w a b c d->G):G:=acX.elim λa acX=>acX.elim λb acX=>acX.elim λc acX=>acX.elim λd W=>k a b c d W.1 W.2.1 W.2.2.1 W.2.2.2.1 W.2.2.2.2.1 W.2.2.2.2.2.1 W.2.2.2.2.2.2.1 W.2.2.2.2.2.2.2
theorem aa8{H β γ δ E:Type}{p q:H->β->γ->δ->E->Prop}{G:Prop}(acX:∃a b c d e,p a b c d e/\q a b c d e)(k:∀a b c d e,p a b c d e->q a b c d e->G):G:=acX.elim λa acX=>acX.elim λb acX=>acX.elim λc acX=>acX.elim λd acX=>acX.elim λe W=>k a b c d e W.1 W.2
theorem WU{H β γ δ E:Type}{p q r s t u v:H->β->γ->δ->E->Prop}{G:Prop}(acX:∃a b c d e,p a b c d e/\q a b c d e/\r a b c d e/\s a b c d e/\t a b c d e/\u a b c d e/\v a b c d e)(k:∀a b c d e,p a b c d e->q a b c d e->r a b c d e->s a b c d e->t a b c d e->u a b c d e->v a b c d e->G):G:=acX.elim λa acX=>acX.elim λb acX=>acX.elim λc acX=>acX.elim λd acX=>acX.elim λe W=>k a b c d e W.1 W.2.1 W.2.2.1 W.2.2.2.1 W.2.2.2.2.1 W.2.2.2.2.2.1 W.2.2.2.2.2.2
theorem aa9{H β γ δ E:Type}{p q r s t u v w:H->β->γ->δ->E->Prop}{G:Prop}(acX:∃a b c d e,p a b c d e/\q a b c d e/\r a b c d e/\s a b c d e/\t a b c d e/\u a b c d e/\v a b c d e/\w a b c d e)(k:∀a b c d e,p a b c d e->q a b c d e->r a b c d e->s a b c d e->t a b c d e->u a b c d e->v a b c d e->w a b c d e->G):G:=acX.elim λa acX=>acX.elim λb acX=>acX.elim λc acX=>acX.elim λd acX=>acX.elim λe W=>k a b c d e W.1 W.2.1 W.2.2.1 W.2.2.2.1 W.2.2.2.2.1 W.2.2.2.2.2.1 W.2.2.2.2.2.2.1 W.2.2.2.2.2.2.2
theorem WV{H β γ δ E:Type}{p q r s t u v w x y:H->β->γ->δ->E->Prop}{G:Prop}(acX:∃a b c d e,p a b c d e/\q a b c d e/\r a b c d e/\s a b c d e/\t a b c d e/\u a b c d e/\v a b c d e/\w a b c d e/\x a b c d e/\y a b c d e)(k:∀a b c d e,p a b c d e->q a b c d e->r a b c d e->s a b c d e->t a b c d e->u a b c d e->v a b c d e->w a b c d e->x a b c d e->y a b c d e->G):G:=acX.elim λa acX=>acX.elim λb acX=>acX.elim λc acX=>acX.elim λd acX=>acX.elim λe W=>k a b c d e W.1 W.2.1 W.2.2.1 W.2.2.2.1 W.2.2.2.2.1 W.2.2.2.2.2.1 W.2.2.2.2.2.2.1 W.2.2.2.2.2.2.2.1 W.2.2.2.2.2.2.2.2.1 W.2.2.2.2.2.2.2.2.2
theorem WW{H β γ δ E ζ:Type}{p q r s t u v:H->β->γ->δ->E->ζ->Prop}{G:Prop}(acX:∃a b c d e f,p a b c d e f/\q a b c d e f/\r a b c d e f/\s a b c d e f/\t a b c d e f/\u a b c d e f/\v a b c d e f)(k:∀a b c d e f,p a b c d e f->q a b c d e f->r a b c d e f->s a b c d e f->t a b c d e f->u a b c d e f->v a b c d e f->G):G:=acX.elim λa acX=>acX.elim λb acX=>acX.elim λc acX=>acX.elim λd acX=>acX.elim λe acX=>acX.elim λf W=>k a b c d e f W.1 W.2.1 W.2.2.1 W.2.2.2.1 W.2.2.2.2.1 W.2.2.2.2.2.1 W.2.2.2.2.2.2
theorem bL{p q r:Prop}(h0:p)(h1:q)(h2:r):p/\q/\r:=⟨h0,h1,h2⟩
theorem ib{p q r s:Prop}(h0:p)(h1:q)(h2:r)(h3:s):p/\q/\r/\s:=⟨h0,h1,h2,h3⟩
theorem vj{p q r s t:Prop}(h0:p)(h1:q)(h2:r)(h3:s)(h4:t):p/\q/\r/\s/\t:=⟨h0,h1,h2,h3,h4⟩
theorem WX{p q r s t u:Prop}(h0:p)(h1:q)(h2:r)(h3:s)(h4:t)(h5:u):p/\q/\r/\s/\t/\u:=⟨h0,h1,h2,h3,h4,h5⟩
theorem WY{p q r s t u v:Prop}(h0:p)(h1:q)(h2:r)(h3:s)(h4:t)(h5:u)(h6:v):p/\q/\r/\s/\t/\u/\v:=⟨h0,h1,h2,h3,h4,h5,h6⟩
theorem WZ{p q r s t u v w x y:Prop}(h0:p)(h1:q)(h2:r)(h3:s)(h4:t)(h5:u)(h6:v)(h7:w)(h8:x)(h9:y):p/\q/\r/\s/\t/\u/\v/\w/\x/\y:=⟨h0,h1,h2,h3,h4,h5,h6,h7,h8,h9⟩
theorem aQ{H:Type}{p q:H->Prop}(a:H)(h0:p a)(h1:q a):∃a,p a/\q a:=⟨a,h0,h1⟩
theorem bS{H:Type}{p q r:H->Prop}(a:H)(h0:p a)(h1:q a)(h2:r a):∃a,p a/\q a/\r a:=⟨a,h0,h1,h2⟩
theorem vm{H:Type}{p q r s:H->Prop}(a:H)(h0:p a)(h1:q a)(h2:r a)(h3:s a):∃a,p a/\q a/\r a/\s a:=⟨a,h0,h1,h2,h3⟩
theorem Ae{H β:Type}{p:H->β->Prop}(a:H)(b:β)(h0:p a b):∃a b,p a b:=⟨a,b,h0⟩
theorem bA{H β:Type}{p q:H->β->Prop}(a:H)(b:β)(h0:p a b)(h1:q a b):∃a b,p a b/\q a b:=⟨a,b,h0,h1⟩
theorem dy{H β:Type}{p q r:H->β->Prop}(a:H)(b:β)(h0:p a b)(h1:q a b)(h2:r a b):∃a b,p a b/\q a b/\r a b:=⟨a,b,h0,h1,h2⟩
theorem mH{H β:Type}{p q r s:H->β->Prop}(a:H)(b:β)(h0:p a b)(h1:q a b)(h2:r a b)(h3:s a b):∃a b,p a b/\q a b/\r a b/\s a b:=⟨a,b,h0,h1,h2,h3⟩
theorem aba{H β:Type}{p q r s t:H->β->Prop}(a:H)(b:β)(h0:p a b)(h1:q a b)(h2:r a b)(h3:s a b)(h4:t a b):∃a b,p a b/\q a b/\r a b/\s a b/\t a b:=⟨a,b,h0,h1,h2,h3,h4⟩
theorem abb{H β:Type}{p q r s t u:H->β->Prop}(a:H)(b:β)(h0:p a b)(h1:q a b)(h2:r a b)(h3:s a b)(h4:t a b)(h5:u a b):∃a b,p a b/\q a b/\r a b/\s a b/\t a b/\u a b:=⟨a,b,h0,h1,h2,h3,h4,h5⟩
theorem Ca{H β:Type}{p q r s t u v:H->β->Prop}(a:H)(b:β)(h0:p a b)(h1:q a b)(h2:r a b)(h3:s a b)(h4:t a b)(h5:u a b)(h6:v a b):∃a b,p a b/\q a b/\r a b/\s a b/\t a b/\u a b/\v a b:=⟨a,b,h0,h1,h2,h3,h4,h5,h6⟩
theorem HM{H β γ:Type}{p:H->β->γ->Prop}(a:H)(b:β)(c:γ)(h0:p a b c):∃a b c,p a b c:=⟨a,b,c,h0⟩
theorem Mk{H β γ:Type}{p q:H->β->γ->Prop}(a:H)(b:β)(c:γ)(h0:p a b c)(h1:q a b c):∃a b c,p a b c/\q a b c:=⟨a,b,c,h0,h1⟩
theorem abc{H β γ:Type}{p q r:H->β->γ->Prop}(a:H)(b:β)(c:γ)(h0:p a b c)(h1:q a b c)(h2:r a b c):∃a b c,p a b c/\q a b c/\r a b c:=⟨a,b,c,h0,h1,h2⟩
theorem jh{H β γ:Type}{p q r s:H->β->γ->Prop}(a:H)(b:β)(c:γ)(h0:p a b c)(h1:q a b c)(h2:r a b c)(h3:s a b c):∃a b c,p a b c/\q a b c/\r a b c/\s a b c:=⟨a,b,c,h0,h1,h2,h3⟩
theorem W0{H β γ:Type}{p q r s t:H->β->γ->Prop}(a:H)(b:β)(c:γ)(h0:p a b c)(h1:q a b c)(h2:r a b c)(h3:s a b c)(h4:t a b c):∃a b c,p a b c/\q a b c/\r a b c/\s a b c/\t a b c:=⟨a,b,c,h0,h1,h2,h3,h4⟩
theorem Rg{H β γ:Type}{p q r s t u:H->β->γ->Prop}(a:H)(b:β)(c:γ)(h0:p a b c)(h1:q a b c)(h2:r a b c)(h3:s a b c)(h4:t a b c)(h5:u a b c):∃a b c,p a b c/\q a b c/\r a b c/\s a b c/\t a b c/\u a b c:=⟨a,b,c,h0,h1,h2,h3,h4,h5⟩
theorem W2{H β γ:Type}{p q r s t u v:H->β->γ->Prop}(a:H)(b:β)(c:γ)(h0:p a b c)(h1:q a b c)(h2:r a b c)(h3:s a b c)(h4:t a b c)(h5:u a b c)(h6:v a b c):∃a b c,p a b c/\q a b c/\r a b c/\s a b c/\t a b c/\u a b c/\v a b c:=⟨a,b,c,h0,h1,h2,h3,h4,h5,h6⟩
theorem abd{H β γ δ:Type}{p q:H->β->γ->δ->Prop}(a:H)(b:β)(c:γ)(d:δ)(h0:p a b c d)(h1:q a b c d):∃a b c d,p a b c d/\q a b c d:=⟨a,b,c,d,h0,h1⟩
theorem W3{H β γ δ:Type}{p q r:H->β->γ->δ->Prop}(a:H)(b:β)(c:γ)(d:δ)(h0:p a b c d)(h1:q a b c d)(h2:r a b c d):∃a b c d,p a b c d/\q a b c d/\r a b c d:=⟨a,b,c,d,h0,h1,h2⟩
theorem w3{H β γ δ:Type}{p q r s:H->β->γ->δ->Prop}(a:H)(b:β)(c:γ)(d:δ)(h0:p a b c d)(h1:q a b c d)(h2:r a b c d)(h3:s a b c d):∃a b c d,p a b c d/\q a b c d/\r a b c d/\s a b c d:=⟨a,b,c,d,h0,h1,h2,h3⟩
theorem ji{H β γ δ:Type}{p q r s t:H->β->γ->δ->Prop}(a:H)(b:β)(c:γ)(d:δ)(h0:p a b c d)(h1:q a b c d)(h2:r a b c d)(h3:s a b c d)(h4:t a b c d):∃a b c d,p a b c d/\q a b c d/\r a b c d/\s a b c d/\t a b c d:=⟨a,b,c,d,h0,h1,h2,h3,h4⟩
theorem w4{H β γ δ:Type}{p q r s t u:H->β->γ->δ->Prop}(a:H)(b:β)(c:γ)(d:δ)(h0:p a b c d)(h1:q a b c d)(h2:r a b c d)(h3:s a b c d)(h4:t a b c d)(h5:u a b c d):∃a b c d,p a b c d/\q a b c d/\r a b c d/\s a b c d/\t a b c d/\u a b c d:=⟨a,b,c,d,h0,h1,h2,h3,h4,h5⟩
theorem abe{H β γ δ E:Type}{p q:H->β->γ->δ->E->Prop}(a:H)(b:β)(c:γ)(d:δ)(e:E)(h0:p a b c d e)(h1:q a b c d e):∃a b c d e,p a b c d e/\q a b c d e:=⟨a,b,c,d,e,h0,h1⟩
theorem abf{H β γ δ E:Type}{p q r s t u v:H->β->γ->δ->E->Prop}(a:H)(b:β)(c:γ)(d:δ)(e:E)(h0:p a b c d e)(h1:q a b c d e)(h2:r a b c d e)(h3:s a b c d e)(h4:t a b c d e)(h5:u a b c d e)(h6:v a b c d e):∃a b c d e,p a b c d e/\q a b c d e/\r a b c d e/\s a b c d e/\t a b c d e/\u a b c d e/\v a b c d e:=⟨a,b,c,d,e,h0,h1,h2,h3,h4,h5,h6⟩
theorem abg{H β γ δ E:Type}{p q r s t u v w:H->β->γ->δ->E->Prop}(a:H)(b:β)(c:γ)(d:δ)(e:E)(h0:p a b c d e)(h1:q a b c d e)(h2:r a b c d e)(h3:s a b c d e)(h4:t a b c d e)(h5:u a b c d e)(h6:v a b c d e)(h7:w a b c d e):∃a b c d e,p a b c d e/\q a b c d e/\r a b c d e/\s a b c d e/\t a b c d e/\u a b c d e/\v a b c d e/\w a b c d e:=⟨a,b,c,d,e,h0,h1,h2,h3,h4,h5,h6,h7⟩
theorem W4{H β γ δ E:Type}{p q r s t u v w x y:H->β->γ->δ->E->Prop}(a:H)(b:β)(c:γ)(d:δ)(e:E)(h0:p a b c d e)(h1:q a b c d e)(h2:r a b c d e)(h3:s a b c d e)(h4:t a b c d e)(h5:u a b c d e)(h6:v a b c d e)(h7:w a b c d e)(h8:x a b c d e)(h9:y a b c d e):∃a b c d e,p a b c d e/\q a b c d e/\r a b c d e/\s a b c d e/\t a b c d e/\u a b c d e/\v a b c d e/\w a b c d e/\x a b c d e/\y a b c d e:=⟨a,b,c,d,e,h0,h1,h2,h3,h4,h5,h6,h7,h8,h9⟩
theorem abh{H β γ δ E ζ:Type}{p q r s t u v:H->β->γ->δ->E->ζ->Prop}(a:H)(b:β)(c:γ)(d:δ)(e:E)(f:ζ)(h0:p a b c d e f)(h1:q a b c d e f)(h2:r a b c d e f)(h3:s a b c d e f)(h4:t a b c d e f)(h5:u a b c d e f)(h6:v a b c d e f):∃a b c d e f,p a b c d e f/\q a b c d e f/\r a b c d e f/\s a b c d e f/\t a b c d e f/\u a b c d e f/\v a b c d e f:=⟨a,b,c,d,e,f,h0,h1,h2,h3,h4,h5,h6⟩
theorem eQ{G:Prop}(h:(G->False)->False):G:=Classical.byContradiction h
@[elab_as_elim] theorem ah{H:Type}{a b:H}{P:H->Prop}(h:a=b)(k:P b):P a:=h▸k
@[elab_as_elim] theorem eV{H:Type}{a b:H}{P:H->Prop}(h:a=b)(k:P a):P b:=h▸k
theorem cBool{Q:Prop}(x:Bool)(h0:x=.false->Q)(h1:x=.true->Q):Q:=by cases x with|false=>exact h0 rfl|true=>exact h1 rfl
theorem kY{H:Type}{Q:Prop}(x:Option H)(h0:x=.none->Q)(h1:∀(a:H),x=.some a->Q):Q:=by cases x with|none=>exact h0 rfl|some=>exact h1 _ rfl
theorem W5{H:Type}{Q:Prop}(x:List H)(h0:x=.nil->Q)(h1:∀(a:H)(b:List H),x=.cons a b->Q):Q:=by cases x with|nil=>exact h0 rfl|cons=>exact h1 _ _ rfl
theorem cRE{Q:Prop}(x:RE)(h0:x=.no->Q)(h1:∀(a:V)(b:Mm),x=.ok a b->Q):Q:=by cases x with|no=>exact h0 rfl|ok=>exact h1 _ _ rfl
theorem W6{Q:Prop}(x:RD)(h0:x=.no->Q)(h1:x=.fin->Q)(h2:∀(a:V),x=.ok a->Q):Q:=by cases x with|no=>exact h0 rfl|fin=>exact h1 rfl|ok=>exact h2 _ rfl
theorem Ml{Q:Prop}(x:OV)(h0:x=.no->Q)(h1:∀(a:V),x=.ok a->Q):Q:=by cases x with|no=>exact h0 rfl|ok=>exact h1 _ rfl
theorem cOI{Q:Prop}(x:OI)(h0:x=.no->Q)(h1:∀(a:Int),x=.ok a->Q):Q:=by cases x with|no=>exact h0 rfl|ok=>exact h1 _ rfl
theorem cOS{Q:Prop}(x:OS)(h0:x=.no->Q)(h1:∀(a:S),x=.ok a->Q):Q:=by cases x with|no=>exact h0 rfl|ok=>exact h1 _ rfl
theorem VS{Q:Prop}(x:OE)(h0:x=.no->Q)(h1:∀(a:Env),x=.ok a->Q):Q:=by cases x with|no=>exact h0 rfl|ok=>exact h1 _ rfl
theorem cOO{Q:Prop}(x:OO)(h0:x=.no->Q)(h1:∀(a:O),x=.ok a->Q):Q:=by cases x with|no=>exact h0 rfl|ok=>exact h1 _ rfl
theorem cOA{Q:Prop}(x:OA)(h0:x=.no->Q)(h1:∀(a:Nat)(b:V),x=.ok a b->Q):Q:=by cases x with|no=>exact h0 rfl|ok=>exact h1 _ _ rfl
@[elab_as_elim] theorem cW{P:Bool->Prop}(x:Bool)(h0:x=.false->P (.false))(h1:x=.true->P (.true)):P x:=by cases x with|false=>exact h0 rfl|true=>exact h1 rfl
@[elab_as_elim] theorem kZ{H:Type}{P:Option H->Prop}(x:Option H)(h0:x=.none->P (.none))(h1:∀(a:H),x=.some a->P (.some a)):P x:=by cases x with|none=>exact h0 rfl|some=>exact h1 _ rfl
@[elab_as_elim] theorem W7{H:Type}{P:List H->Prop}(x:List H)(h0:x=.nil->P (.nil))(h1:∀(a:H)(b:List H),x=.cons a b->P (.cons a b)):P x:=by cases x with|nil=>exact h0 rfl|cons=>exact h1 _ _ rfl
@[elab_as_elim] theorem abi{P:Nat->Prop}(x:Nat)(h0:x=.zero->P (.zero))(h1:∀(a:Nat),x=.succ a->P (.succ a)):P x:=by cases x with|zero=>exact h0 rfl|succ=>exact h1 _ rfl
@[elab_as_elim] theorem mRS{P:RS->Prop}(x:RS)(h0:x=.no->P (.no))(h1:∀(a:Env)(b:Mm),x=.dw a b->P (.dw a b))(h2:∀(a:Env)(b:Mm),x=.brk a b->P (.brk a b))(h3:∀(a:Env)(b:Mm),x=.cont a b->P (.cont a b))(h4:∀(a:V)(b:Mm),x=.ret a b->P (.ret a b)):P x:=by cases x with|no=>exact h0 rfl|dw=>exact h1 _ _ rfl|brk=>exact h2 _ _ rfl|cont=>exact h3 _ _ rfl|ret=>exact h4 _ _ rfl
@[elab_as_elim] theorem mOV{P:OV->Prop}(x:OV)(h0:x=.no->P (.no))(h1:∀(a:V),x=.ok a->P (.ok a)):P x:=by cases x with|no=>exact h0 rfl|ok=>exact h1 _ rfl
@[elab_as_elim] theorem mOI{P:OI->Prop}(x:OI)(h0:x=.no->P (.no))(h1:∀(a:Int),x=.ok a->P (.ok a)):P x:=by cases x with|no=>exact h0 rfl|ok=>exact h1 _ rfl
@[elab_as_elim] theorem mOS{P:OS->Prop}(x:OS)(h0:x=.no->P (.no))(h1:∀(a:S),x=.ok a->P (.ok a)):P x:=by cases x with|no=>exact h0 rfl|ok=>exact h1 _ rfl
@[elab_as_elim] theorem mOO{P:OO->Prop}(x:OO)(h0:x=.no->P (.no))(h1:∀(a:O),x=.ok a->P (.ok a)):P x:=by cases x with|no=>exact h0 rfl|ok=>exact h1 _ rfl
@[elab_as_elim] theorem mOL{P:OL->Prop}(x:OL)(h0:x=.no->P (.no))(h1:∀(a:List O),x=.ok a->P (.ok a)):P x:=by cases x with|no=>exact h0 rfl|ok=>exact h1 _ rfl
@[elab_as_elim] theorem Af{H:Type}{a:H}{w:H}{P:H->Prop}(e:(Option.some a:Option H)=.some w)(k:P a):P w:=by cases e;exact k
@[elab_as_elim] theorem abj{H:Type}{a:H}{w:H}{P:H->Prop}(e:(Option.some a:Option H)=.some w)(k:P w):P a:=by cases e;exact k
@[elab_as_elim] theorem HN{H:Type}{a:H}{b:List H}{w:H}{x:List H}{P:H->List H->Prop}(e:(cf a b:List H)=.cons w x)(k:P a b):P w x:=by cases e;exact k
@[elab_as_elim] theorem DQ{a:V}{b:Mm}{w:V}{x:Mm}{P:V->Mm->Prop}(e:(RE.ok a b:RE)=.ok w x)(k:P a b):P w x:=by cases e;exact k
@[elab_as_elim] theorem W8{a:V}{b:Mm}{w:V}{x:Mm}{P:V->Mm->Prop}(e:(RE.ok a b:RE)=.ok w x)(k:P w x):P a b:=by cases e;exact k
@[elab_as_elim] theorem iRB{a:Bool}{b:Mm}{w:Bool}{x:Mm}{P:Bool->Mm->Prop}(e:(RB.ok a b:RB)=.ok w x)(k:P a b):P w x:=by cases e;exact k
@[elab_as_elim] theorem rRB{a:Bool}{b:Mm}{w:Bool}{x:Mm}{P:Bool->Mm->Prop}(e:(RB.ok a b:RB)=.ok w x)(k:P w x):P a b:=by cases e;exact k
@[elab_as_elim] theorem iRM{a:Mm}{w:Mm}{P:Mm->Prop}(e:(RM.ok a:RM)=.ok w)(k:P a):P w:=by cases e;exact k
@[elab_as_elim] theorem iRD{a:V}{w:V}{P:V->Prop}(e:(RD.ok a:RD)=.ok w)(k:P a):P w:=by cases e;exact k
@[elab_as_elim] theorem DS{a:V}{w:V}{P:V->Prop}(e:(OV.ok a:OV)=.ok w)(k:P a):P w:=by cases e;exact k
@[elab_as_elim] theorem rOV{a:V}{w:V}{P:V->Prop}(e:(OV.ok a:OV)=.ok w)(k:P w):P a:=by cases e;exact k
@[elab_as_elim] theorem iOI{a:Int}{w:Int}{P:Int->Prop}(e:(OI.ok a:OI)=.ok w)(k:P a):P w:=by cases e;exact k
@[elab_as_elim] theorem rOI{a:Int}{w:Int}{P:Int->Prop}(e:(OI.ok a:OI)=.ok w)(k:P w):P a:=by cases e;exact k
@[elab_as_elim] theorem W9{a:S}{w:S}{P:S->Prop}(e:(OS.ok a:OS)=.ok w)(k:P a):P w:=by cases e;exact k
@[elab_as_elim] theorem rOS{a:S}{w:S}{P:S->Prop}(e:(OS.ok a:OS)=.ok w)(k:P w):P a:=by cases e;exact k
@[elab_as_elim] theorem iOE{a:Env}{w:Env}{P:Env->Prop}(e:(OE.ok a:OE)=.ok w)(k:P a):P w:=by cases e;exact k
@[elab_as_elim] theorem iOA{a:Nat}{b:V}{w:Nat}{x:V}{P:Nat->V->Prop}(e:(OA.ok a b:OA)=.ok w x)(k:P a b):P w x:=by cases e;exact k
set_option tactic.hygienic false
theorem nE{x:V}{B:Mm}:RE.no≠ .ok x B:=λe=>by cases e
theorem nB{x:Bool}{B:Mm}:RB.no≠ .ok x B:=λe=>by cases e
theorem nO{x:V}:OV.no≠ .ok x:=λe=>by cases e
theorem nM{B:Mm}:RM.no≠ .ok B:=λe=>by cases e
theorem nI{x:Int}:OI.no≠ .ok x:=λe=>by cases e
theorem nS{x:S}:OS.no≠ .ok x:=λe=>by cases e
theorem nR{x:V}{B:Mm}:RO.no≠ .Hb x B:=λe=>by cases e
theorem nN{B:Mm}:RO.no≠ .Ha B:=λe=>by cases e
theorem nD{x:V}:RD.no≠ .ok x:=λe=>by cases e
theorem nG:RD.no≠ .fin:=λe=>by cases e
theorem nA{c:Nat}{l:V}:OA.no≠ .ok c l:=λe=>by cases e
theorem nV{x:Env}:OE.no≠ .ok x:=λe=>by cases e
theorem nT:false≠true:=λe=>by cases e
theorem nF:true≠false:=λe=>by cases e
theorem OV.okI{x y:V}(e:OV.ok x=.ok y):x=y:=by injection e
section
variable{H:Type}{d y:H}{Q:Prop}
theorem jI{A:Int->H}{o:OI}(n:d≠y)(e: @OI.rec (λY=>H) d A o=y)(k:∀j,o=.ok j->A j=y->Q):Q:=by induction o<;>first|exact absurd e n|exact k _ rfl e
theorem jV{A:V->H}{o:OV}(n:d≠y)(e: @OV.rec (λY=>H) d A o=y)(k:∀j,o=.ok j->A j=y->Q):Q:=by induction o<;>first|exact absurd e n|exact k _ rfl e
theorem jS{A:S->H}{o:OS}(n:d≠y)(e: @OS.rec (λY=>H) d A o=y)(k:∀j,o=.ok j->A j=y->Q):Q:=by induction o<;>first|exact absurd e n|exact k _ rfl e
theorem jO{A:O->H}{o:OO}(n:d≠y)(e: @OO.rec (λY=>H) d A o=y)(k:∀j,o=.ok j->A j=y->Q):Q:=by induction o<;>first|exact absurd e n|exact k _ rfl e
theorem jB{A:Bool->Mm->H}{o:RB}(n:d≠y)(e: @RB.rec (λY=>H) d A o=y)(k:∀v B,o=.ok v B->A v B=y->Q):Q:=by induction o<;>first|exact absurd e n|exact k _ _ rfl e
theorem jT{A:H}{b:Bool}(n:d≠y)(e: @Bool.rec (λY=>H) d A b=y)(k:b=true->A=y->Q):Q:=by induction b<;>first|exact absurd e n|exact k rfl e
theorem jF{A:H}{b:Bool}(n:d≠y)(e: @Bool.rec (λY=>H) A d b=y)(k:b=false->A=y->Q):Q:=by induction b<;>first|exact absurd e n|exact k rfl e
theorem W'(v:V):(∃x0 x1,v=.cons x0 x1)∨∀(H:Type)(d:H) f,V.e8 d f v=d:=by induction v using V.casesOn<;>first|exact .inr λY Y Y=>rfl|exact .inl ⟨_,_,rfl⟩
theorem lW{A:V->V->H}{v:V}(n:d≠y)(e:V.e8 d A v=y)(k:∀x0 x1,v=.cons x0 x1->A x0 x1=y->Q):Q:=by
 rcases W' v with⟨x0,x1,rfl⟩|h
 ·exact k _ _ rfl e
 ·exact absurd ((h _ _ _).symm.trans e) n
theorem HO(v:V):(∃x0,v=.int x0)∨∀(H:Type)(d:H) f,V.lS d f v=d:=by induction v using V.casesOn<;>first|exact .inr λY Y Y=>rfl|exact .inl ⟨_,rfl⟩
theorem Mn{A:Int->H}{v:V}(n:d≠y)(e:V.lS d A v=y)(k:∀x0,v=.int x0->A x0=y->Q):Q:=by
 rcases HO v with⟨x0,rfl⟩|h
 ·exact k _ rfl e
 ·exact absurd ((h _ _ _).symm.trans e) n
theorem W_(v:V):(∃x0,v=.str x0)∨∀(H:Type)(d:H) f,V.qV d f v=d:=by induction v using V.casesOn<;>first|exact .inr λY Y Y=>rfl|exact .inl ⟨_,rfl⟩
theorem Mo{A:S->H}{v:V}(n:d≠y)(e:V.qV d A v=y)(k:∀x0,v=.str x0->A x0=y->Q):Q:=by
 rcases W_ v with⟨x0,rfl⟩|h
 ·exact k _ rfl e
 ·exact absurd ((h _ _ _).symm.trans e) n
theorem oTup(v:V):(∃x0,v=.tup x0)∨∀(H:Type)(d:H) f,V.Dx d f v=d:=by induction v using V.casesOn<;>first|exact .inr λY Y Y=>rfl|exact .inl ⟨_,rfl⟩
theorem Rh{A:V->H}{v:V}(n:d≠y)(e:V.Dx d A v=y)(k:∀x0,v=.tup x0->A x0=y->Q):Q:=by
 rcases oTup v with⟨x0,rfl⟩|h
 ·exact k _ rfl e
 ·exact absurd ((h _ _ _).symm.trans e) n
theorem abk(v:V):(∃x0,v=.loc x0)∨∀(H:Type)(d:H) f,V.uW d f v=d:=by induction v using V.casesOn<;>first|exact .inr λY Y Y=>rfl|exact .inl ⟨_,rfl⟩
theorem Mp{A:Nat->H}{v:V}(n:d≠y)(e:V.uW d A v=y)(k:∀x0,v=.loc x0->A x0=y->Q):Q:=by
 rcases abk v with⟨x0,rfl⟩|h
 ·exact k _ rfl e
 ·exact absurd ((h _ _ _).symm.trans e) n
theorem oKv(v:V):(∃x0 x1 x2,v=.kv x0 x1 x2)∨∀(H:Type)(d:H) f,V.LV d f v=d:=by induction v using V.casesOn<;>first|exact .inr λY Y Y=>rfl|exact .inl ⟨_,_,_,rfl⟩
theorem jKv{A:V->V->V->H}{v:V}(n:d≠y)(e:V.LV d A v=y)(k:∀x0 x1 x2,v=.kv x0 x1 x2->A x0 x1 x2=y->Q):Q:=by
 rcases oKv v with⟨x0,x1,x2,rfl⟩|h
 ·exact k _ _ _ rfl e
 ·exact absurd ((h _ _ _).symm.trans e) n
theorem abl(v:V):v=.nil∨∀(H:Type)(d:H) f,V.j4 d f v=d:=by induction v using V.casesOn<;>first|exact .inr λY Y Y=>rfl|exact .inl rfl
theorem vn{z:H}{v:V}(n:d≠y)(e:V.j4 d z v=y)(k:v=.nil->z=y->Q):Q:=by
 rcases abl v with rfl|h
 ·exact k rfl e
 ·exact absurd ((h _ _ _).symm.trans e) n
theorem Xa(v:V):v=.none∨∀(H:Type)(d:H) f,V.rW d f v=d:=by induction v using V.casesOn<;>first|exact .inr λY Y Y=>rfl|exact .inl rfl
theorem PH{z:H}{v:V}(n:d≠y)(e:V.rW d z v=y)(k:v=.none->z=y->Q):Q:=by
 rcases Xa v with rfl|h
 ·exact k rfl e
 ·exact absurd ((h _ _ _).symm.trans e) n
theorem oNC(v:V):v=.nil∨(∃a r,v=.cons a r)∨((∀(H:Type)(d n:H) f,V.z4 d n f v=d)/\∀(H:Type)(d n:H) f,V.rc d n f v=d):=by induction v using V.casesOn<;>first|exact .inr (.inr ⟨λY Y Y Y=>rfl,λY Y Y Y=>rfl⟩)|exact .inl rfl|exact .inr (.inl ⟨_,_,rfl⟩)
theorem jNC{z:H}{A:V->V->H}{v:V}(n:d≠y)(e:V.z4 d z A v=y)(k0:v=.nil->z=y->Q)(k:∀a r,v=.cons a r->A a r=y->Q):Q:=by
 rcases oNC v with rfl|⟨a,r,rfl⟩|h
 ·exact k0 rfl e
 ·exact k _ _ rfl e
 ·exact absurd ((h.1 _ _ _ _).symm.trans e) n
theorem oNK(v:V):v=.nil∨(∃a b r,v=.kv a b r)∨∀(H:Type)(d n:H) f,V.rk d n f v=d:=by induction v using V.casesOn<;>first|exact .inr (.inr λY Y Y Y=>rfl)|exact .inl rfl|exact .inr (.inl ⟨_,_,_,rfl⟩)
end
theorem Mq{P:V->Prop}(nil:P .nil)(cons:∀a r,P r->P (.cons a r))(PI:∀v,(∀(H:Type)(d n:H) f,V.z4 d n f v=d)->(∀(H:Type)(d n:H) f,V.rc d n f v=d)->P v)(l:V):P l:=by
 have o:∀v:V,(¬∃a r,v=.cons a r)->P v:=λv h=>by
  rcases oNC v with rfl|q|q
  ·exact nil
  ·exact absurd q h
  ·exact PI v q.1 q.2
 induction l with
 |cons a r _ ih=>exact cons a r ih
 |_=>exact o _ nofun
theorem abm{P:V->Prop}(nil:P .nil)(kv:∀k v r,P r->P (.kv k v r))(PI:∀v,(∀(H:Type)(d n:H) f,V.rk d n f v=d)->P v)(l:V):P l:=by
 have o:∀v:V,(¬∃a b r,v=.kv a b r)->P v:=λv h=>by
  rcases oNK v with rfl|q|q
  ·exact nil
  ·exact absurd q h
  ·exact PI v q
 induction l with
 |kv a b r _ _ ih=>exact kv a b r ih
 |_=>exact o _ nofun
set_option backward.match.sparseCases false
theorem j9{x:V}{B:Mm}{p:Prop}(e:RE.no=RE.ok x B):p:=absurd e nE
theorem xl{x:Bool}{B:Mm}{p:Prop}(e:RB.no=RB.ok x B):p:=absurd e nB
theorem Hd{x:V}{p:Prop}(e:OV.no=OV.ok x):p:=absurd e nO
theorem PJ{B:Mm}{p:Prop}(e:RM.no=RM.ok B):p:=absurd e nM
theorem nxI{x:Int}{p:Prop}(e:OI.no=OI.ok x):p:=absurd e nI
theorem nxS{x:S}{p:Prop}(e:OS.no=OS.ok x):p:=absurd e nS
noncomputable def Mr:List Nat->Nat
 | [] =>0
 |c::l=>Mr l * 257+c+1
noncomputable def idOf(x:Str):Nat:=Mr x.cps.toList
noncomputable def Xb:List Nat->Bool
 | [] =>true
 |c::l=>a9 c 256&&Xb l
noncomputable def bz(x:Str):Bool:=Xb x.cps.toList
theorem DT:∀{l m:List Nat},Xb l=true->Xb m=true->Mr l=Mr m->l=m
 | [],[],_,_,_=>rfl
 | [],c::m,_,_,h=>by simp[Mr] at h
 |c::l,[],_,_,h=>by simp[Mr] at h
 |c::l,d::m,hl,hm,h=>by
  simp only[Xb,cK,cF] at hl hm;simp only[Mr] at h;have h:=fO h
  have h1:c=d:=by
   have e:=congrArg (·% 257) h;rwa [Nat.mul_add_mod',Nat.mul_add_mod',Nat.mod_eq_of_lt (Nat.lt_succ_of_lt hl.1),Nat.mod_eq_of_lt (Nat.lt_succ_of_lt hm.1)] at e
  subst h1;have h2:Mr l=Mr m:=by clear hl hm;lia
  exact ah (DT hl.2 hm.2 h2) rfl
theorem idOf_inj{x y:Str}(hx:bz x=true)(hy:bz y=true)(h:idOf x=idOf y):x=y:=by
 have:=DT hx hy h
 cases x;cases y
 simp only[Str.mk.injEq];exact Array.toList_inj.mp this
inductive Lc:Type where|one (a:ag)|two (x d:ag)|nul
noncomputable def Lc.at:Lc->ag|.one a=>a|.two x _=>x|.nul=>0
noncomputable def Lc.foot:Lc->List ag|.one a=>[a] |.two x d=>[x,d] |.nul=>[]
noncomputable def foot(M:List Lc):List ag:=M.flatMap Lc.foot
theorem gL(M I:List Lc):foot (M++I)=foot M++foot I:=by simp[foot]
theorem dO{M:List Lc}{i:Nat}{p:Lc}{a:ag}(h:M[i]? =some p)(ha:a∈p.foot):a∈foot M:=
 fY.mpr (aQ p (jv h) ha)
structure Cx where
 prog:Program
 w:aY
 base:ay
 K:Frag
 nk:Nat->ag
 r7:Nat->ag
noncomputable def r8:Nat->aa
 |0=>.builtin "len"|1=>.type "range"|2=>.type "enumerate"|3=>.builtin "abs"|4=>.type "str"|5=>.builtin "ord"|6=>.builtin "chr"|_=>.type "int"
noncomputable def xT:V->S->Prop
 |.kv (.str k) _ r,s=>k=s∨xT r s
 |.kv _ _ r,s=>xT r s
 |_,_=>False
noncomputable def pC:V->Int->Prop
 |.kv (.int k) _ r,s=>k=s∨pC r s
 |.kv _ _ r,s=>pC r s
 |_,_=>False
noncomputable def mkStr(s:S):Str:=⟨s.toArray⟩
section
variable(X:Cx)(h:ay)(Z:List ag)(M:List Lc)
mutual
noncomputable def VR:V->aa->Prop
 |.none,u=>u=.none
 |.bool b,u=>u=.bool b
 |.zZ b,u=>u=.bool b
 |.int i,u=>∃t,u=.int i t
 |.sym i,u=>∃t,u=.int i t
 |.rV a k,u=>∃t,u=.int (aS a k) t
 |.str s,u=>∃t,u=.str (mkStr s) t
 |.ak s,u=>∃t,u=.str (mkStr s) t
 |.tup l,u=>∃a vs,u=.ref a/\a∉Z/\IsTup h a vs/\VL l vs.toList
 |.lst l,u=>∃a vs,u=.ref a/\a∉Z/\h.IsList a vs/\VL l vs.toList
 |.wX l,u=>∃a,u=.ref a/\a∉Z/\(a==sysModules)=false/\((∃f,h.MapOf (strKind X.prog X.w) a f/\BR l f/\∀s u,f (mkStr s)=some u->xT l s)∨(∃f,h.MapOf (intKind X.prog X.w) a f/\o8 l f/\(∀i u,f i=some u->pC l i)/\l≠ .nil))
 |.xf c l,u=>∃x d es n,u=.ref x/\x∉Z/\d∉Z/\h.get? x=some (instObj (X.r7 c) d)/\h.get? d=some (PySem.W.dictOf es n)/\VF l es
 |.om a b d,u=>∃r t1 t2 t3,u=.ref r/\r∉Z/\IsRange h r a b d t1 t2 t3/\mid a=true/\mid b=true
 |.loc i,u=>∃p,M[i]? =some p/\p≠ .nul/\u=.ref p.at
 |.fn f,u=>u=.ref (X.nk f)
 |.cls c,u=>u=.ref (X.r7 c)
 |.blt b,u=>u=r8 b
 |_,_=>False
noncomputable def VL:V->List aa->Prop
 |.nil,us=>us=[]
 |.cons a r,us=>∃x xs,us=x::xs/\VR a x/\VL r xs
 |_,_=>False
noncomputable def BR:V->(Str->Option aa)->Prop
 |.nil,_=>True
 |.kv (.str k) v r,f=>(∃u,f (mkStr k)=some u/\VR v u)/\BR r f
 |_,_=>False
noncomputable def o8:V->(Int->Option aa)->Prop
 |.nil,_=>True
 |.kv (.int k) v r,f=>(∃u,f k=some u/\VR v u)/\o8 r f
 |_,_=>False
noncomputable def VF:V->List cG->Prop
 |.nil,es=>es=[]
 |.fld m v r,es=>∃x t e xs,es=e::xs/\e.key=.str x t/\bz x=true/\idOf x=m/\VR v e.val/\VF r xs
 |_,_=>False
end
end
noncomputable def dQ(q:Nat->Prop):V->Prop
 |.loc i=>q i
 |.tup l=>dQ q l
 |.lst l=>dQ q l
 |.wX l=>dQ q l
 |.xf _ l=>dQ q l
 |.cons a r=>dQ q a/\dQ q r
 |.kv _ v r=>dQ q v/\dQ q r
 |.fld _ v r=>dQ q v/\dQ q r
 |_=>True
theorem HP{q:Nat->Prop}(h:∀i,q i):∀v:V,dQ q v:=by
 intro v
 induction v with
 |loc i=>exact h i
 |tup l ih=>exact ih
 |lst l ih=>exact ih
 |wX l ih=>exact ih
 |xf c l ih=>exact ih
 |cons a r i1 i2=>exact⟨i1,i2⟩
 |kv k v r _ i1 i2=>exact⟨i1,i2⟩
 |fld m v r i1 i2=>exact⟨i1,i2⟩
 |_=>trivial
theorem i0(v:V):dQ (λY=>True) v:=HP (λY=>trivial) v
structure m4(q:Nat->Prop)(Z:List ag)(M:List Lc)(h:ay)(Z':List ag)(aK:List Lc)(h':ay):Prop where
 keep:∀b o,b∉Z->h.get? b=some o->h'.get? b=some o
 fresh:∀b,b∈Z'->b∉Z->h.get? b=none
 pre:∀(i:Nat)(p:Lc),q i->M[i]? =some p->aK[i]? =some p
structure eK(Z:List ag)(M:List Lc)(h:ay)(Z':List ag)(aK:List Lc)(h':ay):Prop where
 keep:∀b o,b∉Z->h.get? b=some o->h'.get? b=some o
 fresh:∀b,b∈Z'->b∉Z->h.get? b=none
 pre:∀(i:Nat)(p:Lc),M[i]? =some p->aK[i]? =some p
section
variable{X:Cx}{h h':ay}{Z Z':List ag}{M aK:List Lc}{j_:Nat->Prop}
theorem m4.out(P:m4 j_ Z M h Z' aK h'){a:ag}{o:Obj}(ha:a∉Z)(e:h.get? a=some o):a∉Z':=λm=>by
 have:=P.fresh a m ha;rw[this] at e;(injection e)
theorem q9(P:m4 j_ Z M h Z' aK h')(v:V):(∀u,dQ j_ v->VR X h Z M v u->VR X h' Z' aK v u)/\(∀us,dQ j_ v->VL X h Z M v us->VL X h' Z' aK v us)/\(∀f,dQ j_ v->BR X h Z M v f->BR X h' Z' aK v f)/\
  (∀f,dQ j_ v->o8 X h Z M v f->o8 X h' Z' aK v f)/\∀es,dQ j_ v->VF X h Z M v es->VF X h' Z' aK v es:=by
 induction v with
 |tup l ih=>exact⟨λu c p=>by refine iZ p λa vs e n PK q=>?_;clear p;refine aL PK λo ho t=>?_;clear PK;exact(mH a vs e (P.out n ho) (aQ o (P.keep _ _ n ho) t) (ih.2.1 _ c q)),λY Y r=>r,λY Y r=>r,λY Y r=>r,λY Y r=>r⟩
 |lst l ih=>exact⟨λu c p=>by refine iZ p λa vs e n vo q=>?_;clear p;refine aL vo λo ho t=>?_;clear vo;exact(mH a vs e (P.out n ho) (aQ o (P.keep _ _ n ho) t) (ih.2.1 _ c q)),λY Y r=>r,λY Y r=>r,λY Y r=>r,λY Y r=>r⟩
 |wX l ih=>
  refine(vj (λu c r=>?_) (λY Y r=>r) (λY Y r=>r) (λY Y r=>r) (λY Y r=>r));obtain⟨a,e,n,m,⟨f,⟨o,es,ep,ho,t⟩,q,z⟩|⟨f,⟨o,es,ep,ho,t⟩,q,z⟩⟩:=r
  ·exact vm a e (P.out n ho) m (.inl (bS f (Mk o es ep (P.keep _ _ n ho) t) (ih.2.2.1 _ c q) z))
  ·exact vm a e (P.out n ho) m (.inr (bS f (Mk o es ep (P.keep _ _ n ho) t) (ih.2.2.2.1 _ c q) z))
 |xf c l ih=>exact⟨λu c p=>by refine vg p λx d es n e n1 n2 h1 h2 q=>?_;clear p;exact(w4 x d es n e (P.out n1 h1) (P.out n2 h2) (P.keep _ _ n1 h1) (P.keep _ _ n2 h2) (ih.2.2.2.2 _ c q)),λY Y r=>r,λY Y r=>r,λY Y r=>r,λY Y r=>r⟩
 |om a b d=>exact⟨λu c p=>by refine ve p λa t1 t2 t3 e n ho m=>?_;clear p;exact(w3 a t1 t2 t3 e (P.out n ho) (P.keep _ _ n ho) m),λY Y r=>r,λY Y r=>r,λY Y r=>r,λY Y r=>r⟩
 |loc i=>exact⟨λu c p=>by refine aL p λp e q=>?_;exact(aQ p (P.pre _ _ c e) q),λY Y r=>r,λY Y r=>r,λY Y r=>r,λY Y r=>r⟩
 |cons a r ia ir=>exact⟨λY Y r=>r,λus c p=>by refine bJ p λx xs e q1 q2=>?_;clear p;exact(dy x xs e (ia.1 _ c.1 q1) (ir.2.1 _ c.2 q2)),λY Y r=>r,λY Y r=>r,λY Y r=>r⟩
 |kv k v r _ iv ir=>
  refine(vj (λY Y r=>r) (λY Y r=>r) (λf c q=>?_) (λf c q=>?_) (λY Y r=>r))
  ·induction k using V.casesOn<;>first|exact⟨q.1.imp λu p=>⟨p.1,iv.1 _ c.1 p.2⟩,ir.2.2.1 _ c.2 q.2⟩|exact q
  ·induction k using V.casesOn<;>first|exact⟨q.1.imp λu p=>⟨p.1,iv.1 _ c.1 p.2⟩,ir.2.2.2.1 _ c.2 q.2⟩|exact q
 |fld m v r iv ir=>exact⟨λY Y r=>r,λY Y r=>r,λY Y r=>r,λY Y r=>r,λes c p=>by refine vg p λx t e xs e1 e2 e3 e4 q1 q2=>?_;clear p;exact(w4 x t e xs e1 e2 e3 e4 (iv.1 _ c.1 q1) (ir.2.2.2.2 _ c.2 q2))⟩
 |_=>exact vj (λY Y r=>r) (λY Y r=>r) (λY Y r=>r) (λY Y r=>r) (λY Y r=>r)
theorem VR.lX(P:m4 j_ Z M h Z' aK h')(v:V){u:aa}(c:dQ j_ v)(r:VR X h Z M v u):VR X h' Z' aK v u:=(q9 P v).1 u c r
theorem VL.lX(P:m4 j_ Z M h Z' aK h')(v:V){us:List aa}(c:dQ j_ v)(r:VL X h Z M v us):VL X h' Z' aK v us:=(q9 P v).2.1 us c r
theorem BR.lX(P:m4 j_ Z M h Z' aK h')(v:V){f:Str->Option aa}(c:dQ j_ v)(r:BR X h Z M v f):BR X h' Z' aK v f:=(q9 P v).2.2.1 f c r
theorem o8.lX(P:m4 j_ Z M h Z' aK h')(v:V){f:Int->Option aa}(c:dQ j_ v)(r:o8 X h Z M v f):o8 X h' Z' aK v f:=(q9 P v).2.2.2.1 f c r
theorem VF.lX(P:m4 j_ Z M h Z' aK h')(v:V){es:List cG}(c:dQ j_ v)(r:VF X h Z M v es):VF X h' Z' aK v es:=(q9 P v).2.2.2.2 es c r
theorem eK.q(P:eK Z M h Z' aK h'):m4 (λY=>True) Z M h Z' aK h':=⟨P.keep,P.fresh,λi p Y e=>P.pre i p e⟩
theorem VR.mono(P:eK Z M h Z' aK h')(v:V){u:aa}(r:VR X h Z M v u):VR X h' Z' aK v u:=VR.lX P.q v (i0 v) r
theorem VL.mono(P:eK Z M h Z' aK h')(v:V){us:List aa}(r:VL X h Z M v us):VL X h' Z' aK v us:=VL.lX P.q v (i0 v) r
theorem o8.mono(P:eK Z M h Z' aK h')(v:V){f:Int->Option aa}(r:o8 X h Z M v f):o8 X h' Z' aK v f:=o8.lX P.q v (i0 v) r
theorem VF.mono(P:eK Z M h Z' aK h')(v:V){es:List cG}(r:VF X h Z M v es):VF X h' Z' aK v es:=VF.lX P.q v (i0 v) r
end
section
variable(X:Cx)(h:ay)(Z:List ag)(M:List Lc)
noncomputable def OR:O->Lc->Prop
 |.list l,p=>∃a vs,p=.one a/\h.PlainList a vs/\VL X h Z M l vs.toList
 |.du l,p=>∃a vs,p=.one a/\h.IsList a vs/\VL X h Z M l vs.toList
 |.gone,p=>p=.nul
 |.inst c l,p=>∃x d es n,p=.two x d/\h.get? x=some (instObj (X.r7 c) d)/\h.get? d=some (PySem.W.dictOf es n)/\VF X h Z M l es
 |.dict l,p=>∃a,p=.one a/\(a==sysModules)=false/\((∃gh,h.DictOf (strKind X.prog X.w) a gh/\BR X h Z M l (valueAt gh)/\(∀s u,valueAt gh (mkStr s)=some u->xT l s)/\gh.length=aO l)∨
   (∃gh,h.DictOf (intKind X.prog X.w) a gh/\o8 X h Z M l (valueAt gh)/\(∀i u,valueAt gh i=some u->pC l i)/\gh.length=aO l/\l≠ .nil))
noncomputable def SR:List O->List Lc->Prop
 | [],ps=>ps=[]
 |o::os,ps=>∃p qs,ps=p::qs/\OR X h Z M o p/\SR os qs
end
structure R0(X:Cx)(B:List O)(N:List ag)(M:List Lc)(h:ay):Prop where
 base:∀b o,X.base.get? b=some o->h.get? b=some o
 bk:SR X h (N++foot M) M B M
 nodup:(foot M).Nodup
 apart:∀a∈foot M,a∉N
 low:∀a∈N++foot M,X.base.get? a=none
 live:∀a∈N,∃o,h.get? a=some o
structure RE_(X:Cx)(env:PySem.Env)(e:Env)(Z:List ag)(M:List Lc)(h:ay):Prop where
 ns:∃m,h.Ns env.locals m/\∀x v,bz x=true->a8 e (idOf x)=.ok v->
  (env.kindOf x=some .local->∃u,m x=some u/\VR X h Z M v u)/\
  ((env.kindOf x=some .cell∨env.kindOf x=some .free)->∃c u,env.cells.lookup x=some c/\h.IsCell c (some u)/\VR X h Z M v u)
set_option backward.match.sparseCases true
section
variable{X:Cx}{h h':ay}{Z Z' N:List ag}{M aK:List Lc}{B:List O}
def All(h h':ay):Prop:=∀b o,h.get? b=some o->h'.get? b=some o
theorem nx{H:Type}{o:Option H}{a:H}{p:Prop}(h:o=none)(e:o=some a):p:=by cases h.symm.trans e
theorem All.refl{h:ay}:All h h:=λY Y e=>e
theorem All.trans{jj fJ FU:ay}(a:All jj fJ)(b:All fJ FU):All jj FU:=λx o e=>b x o (a x o e)
theorem All.push{h:ay}(o:Obj):All h (h.push o):=λY Y e=>n_ o e
theorem All.hS(k:All h h'):eK Z M h Z M h':=⟨λb o Y e=>k b o e,λY m n=>absurd m n,λY Y e=>e⟩
theorem Ag(k:∀a,a∈Z'->a∈Z):eK Z M h Z' M h:=⟨λY Y Y e=>e,λb m n=>absurd (k b m) n,λY Y e=>e⟩
def mI(q:Nat->Prop):O->Prop|.list l=>dQ q l|.du l=>dQ q l|.inst _ l=>dQ q l|.dict l=>dQ q l|.gone=>True
theorem HQ:∀o:O,mI (λY=>True) o|.list l=>i0 l|.du l=>i0 l|.inst _ l=>i0 l|.dict l=>i0 l|.gone=>trivial
theorem OR.Xc{o:O}{p:Lc}{j_:Nat->Prop}(P:m4 j_ Z M h Z' aK h')(c:mI j_ o)(k:∀b∈p.foot,∀o,h.get? b=some o->h'.get? b=some o)(r:OR X h Z M o p):OR X h' Z' aK o p:=by
 induction o with
 |list l=>
  refine bJ r λa vs gY Ah q=>?_;clear r;subst gY;refine bc Ah λo ho=>?_;clear Ah;exact dy a vs rfl ⟨o,k a aW _ ho⟩ (VL.lX P l c q)
 |du l=>
  refine bJ r λa vs fF vp q=>?_;clear r;subst fF;refine aL vp λo ho t=>?_;clear vp;exact dy a vs rfl (aQ o (k a aW _ ho) t) (VL.lX P l c q)
 |gone=>exact r
 |inst c l=>
  refine ve r λx d es n Xd h1 h2 q=>?_;clear r;subst Xd;exact w3 x d es n rfl (k x aW _ h1) (k d (aP _ aW) _ h2) (VF.lX P l c q)
 |dict l=>
  refine bQ r λa i5 m q=>?_;clear r;subst i5;refine(bS a rfl m ?_)
  rcases q with⟨f,⟨o,es,ep,ho,t⟩,q,z⟩|⟨f,⟨o,es,ep,ho,t⟩,q,z⟩
  ·exact .inl (bS f (Mk o es ep (k a aW _ ho) t) (BR.lX P l c q) z)
  ·exact .inr (bS f (Mk o es ep (k a aW _ ho) t) (o8.lX P l c q) z)
theorem OR.alive{o:O}{p:Lc}(r:OR X h Z M o p)(a:ag)(ha:a∈p.foot):∃o,h.get? a=some o:=by
 induction o with
 |list l=>refine bJ r λa' vs ot pL Y=>?_;clear r;subst ot;refine bc pL λo ho=>?_;clear pL;exact aV.mp ha▸⟨_,ho⟩
 |du l=>refine bJ r λa' vs ou PL Y=>?_;clear r;subst ou;refine aL PL λo ho Y=>?_;clear PL;exact aV.mp ha▸⟨o,ho⟩
 |gone=>subst r;exact nomatch ha
 |inst c l=>
  refine ve r λx' d es n Xe h1 h2 Y=>?_;clear r;subst Xe
  rcases aR.mp ha with rfl|ha
  ·exact⟨_,h1⟩
  ·exact aV.mp ha▸⟨_,h2⟩
 |dict l=>
  obtain⟨a',rfl,_,⟨f,⟨o,es,ep,ho,_⟩,_⟩|⟨f,⟨o,es,ep,ho,_⟩,_⟩⟩:=r<;>exact aV.mp ha▸⟨o,ho⟩
theorem SR.alive:∀{os:List O}{ps:List Lc},SR X h Z M os ps->∀p∈ps,∀a∈p.foot,∃o,h.get? a=some o:=by
 intro zr
 induction zr with
 |nil=>
  exact @λ_ r=>by subst r;intro p hp;cases hp
 |cons x os bN=>
  exact @λps r=>by
   refine bJ r λp1 qs q_ r1 r2=>?_;clear r;subst q_;intro p hp a ha
   rcases aR.mp hp with rfl|hp
   ·exact r1.alive a ha
   ·exact bN r2 p hp a ha
theorem OR.gen{o:O}{p:Lc}(P:eK Z M h Z' aK h')(k:∀b∈p.foot,∀o,h.get? b=some o->h'.get? b=some o)(r:OR X h Z M o p):OR X h' Z' aK o p:=OR.Xc P.q (HQ o) k r
theorem SR.gen(P:eK Z M h Z' aK h'):∀{os:List O}{ps:List Lc},(∀p∈ps,∀b∈p.foot,∀o,h.get? b=some o->h'.get? b=some o)->SR X h Z M os ps->SR X h' Z' aK os ps:=by
 intro zr
 induction zr with
 |nil=>
  exact @λ_ _ r=>r
 |cons o os bN=>
  exact @λ_ k r=>by
   refine bJ r λp qs ra r1 r2=>?_;clear r;subst ra;exact dy p qs rfl (OR.gen P (k p (by simp)) r1) (bN (λq hq=>k q (aP _ hq)) r2)
theorem SR.app{os:List O}{ps:List Lc}{o:O}{p:Lc}(r:SR X h Z M os ps)(q:OR X h Z M o p):SR X h Z M (mE os o) (ps++[p]):=by
 induction os generalizing ps with
 |nil=>subst r;exact dy p [] rfl q rfl
 |cons x os ih=>
  refine bJ r λp' qs vq r1 r2=>?_;clear r;subst vq;exact dy p' (qs++[p]) rfl r1 (ih r2)
theorem SR.len{os:List O}{ps:List Lc}(r:SR X h Z M os ps):kB os=ps.length:=by
 induction os generalizing ps with
 |nil=>subst r;rfl
 |cons x os ih=>
  refine bJ r λp' qs pY r1 r2=>?_;clear r;subst pY;show aZ (kB os)=_;refine ah (ih r2) ?_;rfl
theorem SR.get{os:List O}{ps:List Lc}(r:SR X h Z M os ps){i:Nat}{o:O}(e:e_ os i=.ok o):∃p,ps[i]? =some p/\OR X h Z M o p:=by
 induction os generalizing ps i with
 |nil=>(injection e)
 |cons x os ih=>
  refine bJ r λp' qs vt r1 r2=>?_;clear r;subst vt
  induction i using dM with
  |zero=>(injection e with g1;subst g1);exact aQ p' rfl r1
  |succ i=>refine aL (ih r2 (i:=i) e) λp a b=>?_;exact⟨p,by simpa using a,b⟩
theorem FV{a:O}{r:OL}{l:List O}(e:B0 a r=.ok l):∃m,r=.ok m/\l=a::m:=by
 induction r<;>cases e
 exact aQ _ rfl rfl
structure Gw(M:List Lc)(s:aj)(aK:List Lc)(s':aj):Prop where
 keep:∀b o,b∉foot M->s.heap.get? b=some o->s'.heap.get? b=some o
 fresh:∀b,b∈foot aK->b∉foot M->s.heap.get? b=none
 pre:∀(i:Nat)(p:Lc),M[i]? =some p->aK[i]? =some p
 gens:s'.gens=s.gens
 os:s'.os=s.os
theorem HR(k:∀(i:Nat)(p:Lc),M[i]? =some p->aK[i]? =some p){a:ag}(ha:a∈foot M):a∈foot aK:=by
 refine aL (fY.mp ha) λp hp ha=>?_;obtain⟨i,hi,e⟩:=jP hp;exact dO (k i p (ah (eZ hi) (ah e rfl))) ha
theorem Gw.refl{s:aj}:Gw M s M s:=⟨λY Y Y e=>e,λY m n=>absurd m n,λY Y e=>e,rfl,rfl⟩
theorem Gw.trans{az aN cI:List Lc}{aw s₂ cR:aj}(a:Gw az aw aN s₂)(b:Gw aN s₂ cI cR):Gw az aw cI cR:=by
 have old:∀b o,aw.heap.get? b=some o->b∉foot az->b∉foot aN:=λx o e n m=>by
  exact nx (a.fresh x m n) e
 refine⟨λx o n e=>b.keep x o (old x o e n) (a.keep x o n e),λx m n=>?_,λi p e=>b.pre i p (a.pre i p e),b.gens.trans a.gens,b.os.trans a.os⟩
 by_cases q:x∈foot aN
 ·exact a.fresh x q n
 ·refine kZ (aw.heap.get? x) (λe=>?_) (λo e=>?_)
  ·rfl
  ·exact nx (b.fresh x m q) (a.keep x o n e)
theorem Gw.hS{s s':aj}(g:Gw M s aK s'):eK (N++foot M) M s.heap (N++foot aK) aK s'.heap:=
 ⟨λb o n e=>g.keep b o (λm=>n (bD _ m)) e,λb m n=>by
  rcases bp.mp m with m|m
  ·exact absurd (a0 _ m) n
  ·exact g.fresh b m λq=>n (bD _ q),g.pre⟩
theorem Gw.all{s s':aj}(k:All s.heap s'.heap)(hg:s'.gens=s.gens:=by rfl)(ho:s'.os=s.os:=by rfl):Gw M s M s':=⟨λb o Y e=>k b o e,λY m n=>absurd m n,λY Y e=>e,hg,ho⟩
theorem R0.all(r:R0 X B N M h)(k:All h h'):R0 X B N M h':=
 ⟨λb o e=>k b o (r.base b o e),SR.gen (All.hS k) (λY Y b Y o e=>k b o e) r.bk,r.nodup,r.apart,r.low,λa ha=>let ⟨o,e⟩:=r.live a ha;⟨o,k a o e⟩⟩
def Ri(p:Lc)(h h':ay):Prop:=∀b o,b∉p.foot->h.get? b=some o->h'.get? b=some o
theorem Cb:∀{M:List Lc}{i j:Nat}{p q:Lc},(foot M).Nodup->M[i]? =some p->M[j]? =some q->i≠j->∀a,a∈p.foot->a∉q.foot:=by
 intro zr
 induction zr with
 |nil=>
  exact @λ_ _ _ _ _ e _ _ _ _=>by simp at e
 |cons x M bN=>
  exact @λi j p q hn hi hj ne a ha=>by
   have LM:(x.foot++foot M).Nodup:=hn;rw[iN] at LM;refine c_ LM λn1 n2 n3=>?_;clear LM;intro hq
   induction i using dM with
   |zero=>
    induction j using dM with
    |zero=>exact ne rfl
    |succ j=>
     simp only[t6,ux] at hi;subst hi;exact n3 a ha a (dO (i:=j) (by simpa using hj) hq) rfl
   |succ i=>
    induction j using dM with
    |zero=>
     simp only[t6,ux] at hj;subst hj;exact n3 a hq a (dO (i:=i) (by simpa using hi) ha) rfl
    |succ j=>exact bN n2 (i:=i) (j:=j) (by simpa using hi) (by simpa using hj) (λe=>ne (ah e rfl)) a ha hq
theorem SR.but{p:Lc}(P:eK Z M h Z' aK h')(kb:Ri p h h'):∀{os:List O}{ps:List Lc}{i:Nat},(foot ps).Nodup->ps[i]? =some p->SR X h Z M os ps->∀{o:O}{os':List O},lT os i o=.ok os'->OR X h' Z' aK o p->SR X h' Z' aK os' ps:=by
 intro zr
 induction zr with
 |nil=>
  exact @λ_ _ _ _ _ _ _ e _=>by(injection e)
 |cons x os bN=>
  exact @λ_ i hn hi r o os' e q=>by
   refine bJ r λp' qs pZ r1 r2=>?_;clear r;subst pZ;have LM:(p'.foot++foot qs).Nodup:=hn;rw[iN] at LM;refine c_ LM λn1 n2 n3=>?_;clear LM
   induction i using dM with
   |zero=>
    injection e with g1;subst g1;simp only[t6,ux] at hi;subst hi;refine(dy p' qs rfl q (SR.gen P (λq' hq b hb o e=>kb b o (λm=>?_) e) r2));obtain⟨j,hj,ej⟩:=jP hq;exact n3 b m b (dO (i:=j) (ah (eZ hj) (ah ej rfl)) hb) rfl
   |succ i=>
    refine aL (FV (r:=lT os i o) e) λm e1 Rj=>?_;subst Rj;have Xf:qs[i]? =some p:=by simpa using hi
    refine(dy p' qs rfl (OR.gen P (λb hb o e=>kb b o (λm=>?_) e) r1) (bN n2 Xf r2 e1 q));exact n3 b hb b (dO Xf m) rfl
theorem R0.put(r:R0 X B N M h){i:Nat}{p:Lc}{o:O}{ao:List O}(hp:M[i]? =some p)(e:lT B i o=.ok ao)(kb:Ri p h h')(q:OR X h' (N++foot M) M o p):R0 X ao N M h':=by
 have out:∀b o,X.base.get? b=some o->b∉p.foot:=λb o e m=>by
  exact nx (r.low b (bD _ (dO hp m))) e
 have P:eK (N++foot M) M h (N++foot M) M h':=⟨λb o n e=>kb b o (λm=>n (bD _ (dO hp m))) e,λY m n=>absurd m n,λY Y e=>e⟩;refine⟨λb o e=>kb b o (out b o e) (r.base b o e),SR.but P kb r.nodup hp r.bk e q,r.nodup,r.apart,r.low,λa ha=>?_⟩;refine bc (r.live a ha) λo' e'=>?_;exact⟨o',kb a o' (λm=>r.apart a (dO hp m) ha) e'⟩
theorem xU{s s':aj}{i:Nat}{p:Lc}(hp:M[i]? =some p)(kb:Ri p s.heap s'.heap)(hg:s'.gens=s.gens:=by rfl)(ho:s'.os=s.os:=by rfl):Gw M s M s':=
 ⟨λb o n e=>kb b o (λm=>n (dO hp m)) e,λY m n=>absurd m n,λY Y e=>e,hg,ho⟩
theorem lY(M:List Lc)(p:Lc):foot (M++[p])=foot M++p.foot:=by rw[gL];simp[foot]
theorem Ai{p:Lc}(k:All h h')(hf:∀a∈p.foot,h.get? a=none):eK (N++foot M) M h (N++foot (M++[p])) (M++[p]) h':=
 ⟨λb o Y e=>k b o e,λb m n=>by
  rw[lY,←bH] at m;exact(bp.mp m).elim (λm=>absurd m n) (hf b),λi q e=>by refine ah (lD (cA.mp e).1) ?_;exact e⟩
theorem R0.o9(r:R0 X B N M h){a:ag}(m:a∈foot M):∃o,h.get? a=some o:=(fY.mp m).elim λp hp=>SR.alive r.bk p hp.1 a hp.2
theorem R0.ext(r:R0 X B N M h){p:Lc}{o:O}(k:All h h')(hf:∀a∈p.foot,h.get? a=none)(hn:p.foot.Nodup)(q:OR X h' (N++foot (M++[p])) (M++[p]) o p):R0 X (mE B o) N (M++[p]) h':=by
 refine⟨λb o e=>k b o (r.base b o e),(SR.gen (Ai k hf) (λY Y b Y o e=>k b o e) r.bk).app q,?_,λa ha=>?_,λa ha=>?_,λa ha=>(r.live a ha).imp λo e=>k a o e⟩
 ·rw[lY,iN];exact bL r.nodup hn (λa ha b hb e=>(r.o9 ha).elim λo e'=>nx (hf b hb) (e▸e'))
 ·rw[lY] at ha;exact(bp.mp ha).elim (r.apart a) λm hN=>(r.live a hN).elim λo e=>nx (hf a m) e
 ·rw[lY,←bH] at ha;refine(bp.mp ha).elim (r.low a) λm=>?_;refine kZ (X.base.get? a) (λe=>?_) (λo e=>?_)
  ·rfl
  ·exact nx (hf a m) (r.base a o e)
theorem Rk{s s':aj}{p:Lc}(k:All s.heap s'.heap)(hf:∀a∈p.foot,s.heap.get? a=none)(hg:s'.gens=s.gens:=by rfl)(ho:s'.os=s.os:=by rfl):Gw M s (M++[p]) s':=by
 refine⟨λb o Y e=>k b o e,λb m n=>?_,λi q e=>by refine ah (lD (cA.mp e).1) ?_;exact e,hg,ho⟩;rw[lY] at m;exact(bp.mp m).elim (λm=>absurd m n) (hf b)
end
noncomputable def AllP:List Prop->Prop| [] =>True|p::l=>p/\AllP l
noncomputable abbrev Ok(B:Mm):Prop:=AllP B.nj
noncomputable abbrev E0:aa->aj->Prop:=λY Y=>False
noncomputable def Rl(A:aM):Prop:=A.handled=none/\A.units+40<cLine
theorem gv(p:Bool)(B:Mm):(m9 p B).bk=B.bk:=by cases B;rfl
theorem fb{p:Bool}{B:Mm}(h:Ok (m9 p B)):p=true/\Ok B:=by cases B;exact h
theorem vu{p b:Bool}{B ao:Mm}(e:ask p B=.ok b ao)(h:Ok ao):p=b/\Ok B/\ao.bk=B.bk:=by
 obtain⟨s,_|⟨x,r⟩,o⟩:=B
 ·exact xl e
 ·have h:=h;revert e
  induction x using V.casesOn<;>first|exact xl|(intro e;(injection e with g1 g2;subst g1;subst g2);exact(bL h.1 h.2 rfl))
section
variable(X:Cx)
noncomputable def Pe(N:List ag)(M:List Lc)(s:aj)(v:V)(B:Mm):aa->aj->Prop:=
 λu s'=>∃aK,Gw M s aK s'/\R0 X B.bk N aK s'.heap/\VR X s'.heap (N++foot aK) aK v u
noncomputable abbrev Rd(N:List ag)(M:List Lc)(s:aj)(B:Mm):Prop:=R0 X B.bk N M s.heap
noncomputable abbrev Vr(N:List ag)(M:List Lc)(s:aj)(v:V)(u:aa):Prop:=VR X s.heap (N++foot M) M v u
noncomputable abbrev Vl(N:List ag)(M:List Lc)(s:aj)(v:V)(u:List aa):Prop:=VL X s.heap (N++foot M) M v u
end
section
variable{X:Cx}{A:aM}{N:List ag}{M:List Lc}{s s':aj}{v w:V}{u u':aa}{B ao:Mm}
theorem Pe.same(r:Rd X N M s B)(e:ao.bk=B.bk)(q:Vr X N M s v u)(hh:s'.heap=s.heap)(hg:s'.gens=s.gens:=by rfl)(ho:s'.os=s.os:=by rfl):Pe X N M s v ao u s':=by
 refine(bS M (Gw.all (by refine ah hh ?_;exact All.refl) hg ho) ?_ ?_)
 ·show R0 X ao.bk N M s'.heap;refine ah e (ah hh ?_);exact r
 ·show VR X s'.heap _ M v u;refine ah hh ?_;exact q
theorem Pe.all(r:Rd X N M s B)(e:ao.bk=B.bk)(k:All s.heap s'.heap)(q:VR X s'.heap (N++foot M) M v u)(hg:s'.gens=s.gens:=by rfl)(ho:s'.os=s.os:=by rfl):Pe X N M s v ao u s':=by
 refine(bS M (Gw.all k hg ho) ?_ q);show R0 X ao.bk N M s'.heap;refine ah e ?_;exact r.all k
theorem b7{h:ay}{Z:List ag}{i:Int}(e:cb v=.ok i)(r:VR X h Z M v u):∃t,u=.int i t:=by induction v using V.casesOn<;>first|exact nxI e|((injection e with g1;subst g1);exact r)
theorem b8{h:ay}{Z:List ag}{i:S}(e:cu v=.ok i)(r:VR X h Z M v u):∃t,u=.str (mkStr i) t:=by induction v using V.casesOn<;>first|exact nxS e|((injection e with g1;subst g1);exact r)
theorem cx{a b:Bool}(e:ek a b=true):a=true/\b=true:=by induction a<;>induction b<;>first|exact⟨rfl,rfl⟩|exact absurd e nT
theorem vw(a b:Bool):ek a b=(a&&b):=by induction a<;>rfl
theorem Aj(a:Bool):pT a= !a:=by induction a<;>rfl
theorem Cc{p:Prop}[Decidable p]{b:Bool}(h:b=true↔p):b=decide p:=tQ.mpr (h.trans decide_eq_true_iff.symm)
theorem HS{m n:Nat}:n<m↔d7 m<d7 n:=by rw[lC,lC];omega
theorem bj(a b:Int):gI a b=decide (a<b):=Cc (match a,b with
 |.ofNat _,.ofNat _=>(lA cF).trans gR.symm
 |.ofNat m,.negSucc n=>iff_of_false nofun λh=>absurd (Int.lt_trans h (iM n)) (gS.mpr (b9 m))
 |.negSucc m,.ofNat n=>iff_of_true rfl (qp (iM m) (b9 n))
 |.negSucc _,.negSucc _=>(lA cF).trans HS)
theorem eL(a b:Int):mY a b=decide (a≤b):=Cc (match a,b with
 |.ofNat _,.ofNat _=>(lA ez).trans gT.symm
 |.ofNat m,.negSucc n=>iff_of_false nofun λh=>absurd (tU h (iM n)) (gS.mpr (b9 m))
 |.negSucc m,.ofNat n=>iff_of_true rfl (Int.le_of_lt (qp (iM m) (b9 n)))
 |.negSucc _,.negSucc _=>(lA ez).trans (iB.symm.trans ((not_congr HS).trans gS)))
theorem iG(a b:Int):rX a b=decide (a=b):=Cc (match a,b with
 |.ofNat _,.ofNat _=>(lA Nat.beq_eq).trans Int.ofNat_inj.symm
 |.ofNat _,.negSucc _=>iff_of_false nofun nofun
 |.negSucc _,.ofNat _=>iff_of_false nofun nofun
 |.negSucc _,.negSucc _=>(lA Nat.beq_eq).trans ⟨λe=>e▸rfl,λe=>by(injection e with g1;subst g1);rfl⟩)
theorem fP:∀(a b:S),sEq a b=(a==b)
 | [],[] =>rfl
 | [],b::l=>rfl
 |a::l,[] =>rfl
 |a::l,b::m=>by
  show(@Bool.rec (λY=>Bool) false (sEq l m) (aC a b))=_;refine ah (fP l m) ?_;refine cW (aC a b) (λh=>?_) (λh=>?_);rotate_left
  ·rw[Nat.beq_eq] at h;subst h;simp
  ·have:=zK h;simp[this]
theorem eM:∀(a b:S),iU a b=a++b:=by
 intro zr
 induction zr with
 |nil=>
  exact @λ_=>rfl
 |cons a l bN=>
  exact @λb=>congrArg (cf a) (bN b)
theorem eu:∀a:S,j5 a=a.length:=by
 intro zr
 induction zr with
 |nil=>
  exact rfl
 |cons a l bN=>
  exact congrArg aZ (bN)
theorem gZ(n:Nat):iD (d7 n)=(n:Int):=by unfold iD;rw[lC];lia
theorem ow(n:Nat):iD (n:Int)=d7 n:=by unfold iD;rw[lC];lia
theorem rb(a b:Int):mF a b=Builtin.bitAnd a b:=match a,b with
 |.ofNat m,.ofNat n=>rfl
 |.ofNat m,.negSucc n=>by
  show _=(m:Int) - (((m:Int).toNat &&& (iD (d7 n)).toNat:Nat):Int);rw[gZ,gU,gU];exact tV Nat.and_le_left
 |.negSucc m,.ofNat n=>by
  show _=(n:Int) - (((n:Int).toNat &&& (iD (d7 m)).toNat:Nat):Int);rw[gZ,gU,gU];exact tV Nat.and_le_left
 |.negSucc m,.negSucc n=>by
  show _=iD (((iD (d7 m)).toNat ||| (iD (d7 n)).toNat:Nat):Int);rw[gZ,gZ,gU,gU,ow]
  rfl
end
section
variable{X:Cx}{A:aM}{N:List ag}{M:List Lc}{s s':aj}{v w:V}{u u':aa}{B ao:Mm}
theorem Ms(a b:Int):iOr a b=Builtin.bitOr a b:=by
 have hp:∀n:Nat,iD (.ofNat n)=d7 n:=ow;unfold Builtin.bitOr;rw[←rb]
 induction a<;>cases b
 ·rw[hp,hp];exact(gZ _).symm
 ·rw[hp,gZ];exact(ow _).symm
 ·rw[hp,gZ];exact(ow _).symm
 ·rw[gZ,gZ];exact(ow _).symm
noncomputable def BS:hV->Operator
 |.add=>.Add|.sub=>.Sub|.mul=>.Mult|.fdiv=>.FloorDiv|.mod=>.Mod|.shl=>.LShift|.shr=>.RShift|.and=>.BitAnd|.or=>.BitOr
theorem ti{i:Int}(h:low i=true): -1000000<i/\i<1000000:=by
 have p:=cx h;rw[bj,bj,decide_eq_true_iff,decide_eq_true_iff] at p;exact p
theorem mJ{i:Int}(h:mid i=true): -(2 ^ 62)≤i/\i<2 ^ 62:=by
 have p:=cx h;rw[bj,bj,decide_eq_true_iff,decide_eq_true_iff] at p;exact⟨Int.le_of_lt p.1,p.2⟩
theorem Ro{op:hV}{i j:Int}{t t':Tok}{Q:aa->aj->Prop}{prog:Program}{w:aY}{acW:aa->aj->Prop}(hj:zb op j=true)(hk:BP op i j=true)
  (h:Q (.int (binI op i j) s.toks) {s with toks:=s.toks+1}):wpAny (model prog w) A (binaryOp (BS op) (.int i t) (.int j t')) Q acW s:=by
 induction op with
 |add=>exact P.add_int h
 |sub=>exact P.sub_int h
 |mul=>
  refine P.mul_int h (IntMulOk.of_left (intBits_le_64 ?_ ?_))
  ·have:=(mJ (cx hk).1).1;omega
  ·have:=(mJ (cx hk).1).2;omega
 |fdiv=>
  have h0:j≠0:=by
   intro e;subst e;exact absurd hj (by decide)
  refine floordiv_int h0 h (.inl (noPylong_small ?_))
  have:=ti (i:=j) hk;omega
 |mod=>
  have h0:j≠0:=by
   intro e;subst e;exact absurd hj (by decide)
  exact mod_int' h0 h
 |shl=>
  obtain⟨a,b⟩:=cx (show ek (mY 0 j) (mY j 64)=true from hj);rw[eL,decide_eq_true_iff] at a b;have m:=mJ (i:=i) hk;refine lshift_int_small a (by lia) (by omega) ?_;have e:z7 i j=i * 2 ^ j.toNat:=by unfold z7;show i * ((2 ^ j.toNat:Nat):Int)=_;push_cast;rfl
  refine eV e ?_;exact h
 |shr=>
  have a:mY 0 j=true:=hj;rw[eL,decide_eq_true_iff] at a;refine rshift_int a ?_;have e:B3 i j=i.fdiv (2 ^ j.toNat):=by unfold B3;show lB i ((2 ^ j.toNat:Nat):Int)=_;push_cast;rfl
  refine eV e ?_;exact h
 |and=>refine and_int ?_;rw[←rb];exact h
 |or=>refine or_int ?_;rw[←Ms];exact h
theorem Cd{op:hV}{i j:Int}(hi:cb v=.ok i)(hj:cb w=.ok j):cb (VO op v w (binI op i j))=.ok (binI op i j):=by
 induction v using V.casesOn with
 |int x=>show cb (@Bool.rec (λY=>V) _ _ (Dz w))=_;cases Dz w<;>rfl
 |rV x k=>
  rcases HO w with⟨j',rfl⟩|h
  ·refine iOI hi ?_;refine rOI hj ?_
   induction op with
   |add=>exact congrArg OI.ok (Int.add_assoc x k j).symm
   |sub=>exact congrArg OI.ok (Int.add_sub_assoc x k j).symm
   |_=>rfl
  ·exact congrArg cb (h V (.sym (binI op i j)) λj'=>Wr op x k (binI op i j) j')
 |_=>rfl
theorem mK{h:ay}{Z:List ag}{i:S}{t:Tok}(e:cu v=.ok i):VR X h Z M v (.str (mkStr i) t):=by induction v using V.casesOn<;>first|exact nxS e|(refine W9 e ?_;exact⟨t,rfl⟩)
theorem ox{h:ay}{Z:List ag}{i:Int}{t:Tok}(e:cb v=.ok i):VR X h Z M v (.int i t):=by induction v using V.casesOn<;>first|exact nxI e|(refine iOI e ?_;exact⟨t,rfl⟩)
noncomputable def zg(X:Cx)(f:aa->aa->Sem aa)(v w:V)(B:Mm)(r:RE):Prop:=∀x ao,r=.ok x ao->Ok ao->Ok B/\∀A N M s u u',Rl A->Rd X N M s B->Vr X N M s v u->Vr X N M s w u'->wpAny (model X.prog X.w) A (f u u') (Pe X N M s x ao) E0 s
noncomputable def He(X:Cx)(f:aa->Sem aa)(v:V)(B:Mm)(r:RE):Prop:=∀x ao,r=.ok x ao->Ok ao->Ok B/\∀A N M s u,Rl A->Rd X N M s B->Vr X N M s v u->wpAny (model X.prog X.w) A (f u) (Pe X N M s x ao) E0 s
theorem xV{op:hV}{i j:Int}(hi:cb v=.ok i)(hj:cb w=.ok j)(oj:zb op j=true)(ok:BP op i j=true):zg X (binaryOp (BS op)) v w B (u5 op v w i j B):=λx ao e h=>by
 injection e with g1 g2;subst g1;subst g2;exact⟨h,λA N M s u u' Y r q q'=>(b7 hi q).elim λt e=>(b7 hj q').elim λt' e'=>e▸e'▸Ro oj ok (Pe.same r rfl (ox (Cd hi hj)) rfl)⟩
theorem zg.m9{f:aa->aa->Sem aa}{p:Bool}{r:RE}(h:p=true->zg X f v w (Mine.Internal.m9 p B) r)(k:∀x ao,r=.ok x ao->Ok ao->Ok (Mine.Internal.m9 p B)):zg X f v w B r:=λx ao e o=>by
 have q:=fb (k x ao e o);exact⟨q.2,λA N M s u u' a r=>(h q.1 x ao e o).2 A N M s u u' a (by rw[Rd,gv];exact r)⟩
theorem DU{op:hV}{i j:Int}(hi:cb v=.ok i)(hj:cb w=.ok j)(oj:zb op j=true):zg X (binaryOp (BS op)) v w B (pJ op v w i j B):=by
 unfold pJ
 cases both v w with
 |true=>exactλx ao e h=>jT nE e λhk e=>xV hi hj oj hk x ao e h
 |false=>
  refine cW (big op) (λhg=>?_) (λhg=>?_);rotate_left
  ·exact zg.m9 (λhp=>xV hi hj oj hp) λx ao e o=>by refine W8 e ?_;exact o
  ·exact xV hi hj oj (by induction op<;>first|rfl|exact absurd hg nF)
theorem HT{op:hV}{i j:Int}{x:V}(e:pJ op v w i j B=.ok x ao)(h:Ok ao):Ok B:=by
 unfold pJ at e;refine cBool (both v w) (λhb=>?_) (λhb=>?_);rotate_left
 ·replace e:=hb▸e;exact jT nE e λhk e=>by refine W8 e ?_;exact h
 ·replace e:=hb▸e
  cases hg:big op<;>rw[hg] at e<;>(injection e with g1 g2;subst g1;subst g2)
  ·exact h
  ·exact(fb h).2
theorem Mu{op:hV}{i j:Int}(hi:cb v=.ok i)(hj:cb w=.ok j):zg X (binaryOp (BS op)) v w B (z8 op v w i j B):=by
 unfold z8
 cases Dz w with
 |true=>exactλx ao e h=>jT nE e λhk e=>DU hi hj hk x ao e h
 |false=>exact zg.m9 (λhp=>DU hi hj hp) λx ao e o=>HT e o
theorem Ce{op:hV}{i:Int}(hi:cb v=.ok i):zg X (binaryOp (BS op)) v w B (LZ op v w i B):=λx ao e h=>jI nE e λj hj e=>Mu hi hj x ao e h
theorem ie{l:S}(h:cY l=true):l.length≤1000000:=by
 unfold cY at h;rw[ez,eu] at h;exact h
theorem Cf{y:Bool}{l:S}{x:V}(e:FJ y l B=.ok x ao)(h:Ok ao):Ok B/\l.length≤1000000/\ao.bk=B.bk/\cu x=.ok l:=by
 induction y with
 |true=>exact jT nE e λhs e=>by(injection e with g1 g2;subst g1;subst g2);exact ib h (ie hs) rfl rfl
 |false=>(injection e with g1 g2;subst g1;subst g2);exact ib ((fb h).2) (ie (fb h).1) (gv _ _) rfl
theorem FW(a b:S):mkStr a++mkStr b=mkStr (a++b):=by
 show Str.mk (a.toArray++b.toArray)=_;rw[List.append_toArray];rfl
theorem eg(a:S):(mkStr a).length=a.length:=by show a.toArray.size=_;simp
theorem HU{op:hV}{a:S}(hi:cu v=.ok a):zg X (binaryOp (BS op)) v w B (L0 op v w a B):=λx ao e h=>jS nE e λb hj e=>by
 induction op with
 |add=>
  have p:=Cf e h;rw[eM] at p;refine⟨p.1,λA N M s u u' Y r q q'=>(b8 hi q).elim λt e=>(b8 hj q').elim λt' e'=>e▸e'▸P.add_str ?_⟩;rw[eg,eg,FW];have k:∀{c:S}{t:Tok}{n:Nat},a++b=c->Pe X N M s x ao (.str (mkStr c) t) {s with toks:=n}:=λe=>Pe.same r p.2.2.1 (mK (p.2.2.2.trans (congrArg OS.ok e))) rfl
  induction a using bE with
  |nil=>exact k rfl
  |cons c a=>
   induction b using bE with
   |nil=>exact k (cM _)
   |cons d b=>exact⟨by rw[eg];exact bb p.2.1 (by decide),k rfl⟩
 |_=>exact j9 e
end
set_option backward.match.sparseCases false
section
open PySem.SeqAt
section
variable{X:Cx}{A:aM}{N:List ag}{M:List Lc}{s s':aj}{v w:V}{u u':aa}{B ao:Mm}
theorem HV{o:OO}{l:V}(e:dF o=.ok l):∃q,o=.ok q/\(q=.list l∨q=.du l):=jO nO e λq hq e=>by
 subst hq
 induction q<;>first|exact Hd e|((injection e with g1;subst g1);exact(aQ _ rfl (.inl rfl)))|((injection e with g1;subst g1);exact(aQ _ rfl (.inr rfl)))
theorem kK(r:Rd X N M s B){i:Nat}{q:O}(e:bk B i=.ok q):∃p,M[i]? =some p/\OR X s.heap (N++foot M) M q p:=by
 obtain⟨st,h,o⟩:=B;exact r.bk.get e
theorem oy(r:Rd X N M s B){i:Nat}{l:V}(e:dF (bk B i)=.ok l)(q:Vr X N M s (.loc i) u):∃a vs,M[i]? =some (.one a)/\u=.ref a/\s.heap.IsList a vs/\VL X s.heap (N++foot M) M l vs.toList:=by
 refine aL (HV e) λo e1 e2=>?_;refine aL (kK r e1) λp hp ho=>?_;refine bQ q λp' kf Y HW=>?_;clear q;subst HW
 cases hp.symm.trans kf
 rcases e2 with rfl|rfl<;>obtain⟨a,vs,rfl,h1,h2⟩:=ho
 ·exact mH a vs hp rfl h1.isList h2
 ·exact mH a vs hp rfl h1 h2
theorem HX(v:V)(B:Mm):(∃l,v=.lst l)∨(∃i,v=.loc i)∨dY v B=.no:=by
 induction v using V.casesOn<;>first|exact .inr (.inr rfl)|exact .inl ⟨_,rfl⟩|exact .inr (.inl ⟨_,rfl⟩)
theorem dj(r:Rd X N M s B){l:V}(e:dY v B=.ok l)(q:Vr X N M s v u):∃a vs,u=.ref a/\s.heap.IsList a vs/\VL X s.heap (N++foot M) M l vs.toList:=by
 rcases HX v B with⟨m,rfl⟩|⟨i,rfl⟩|h
 ·(injection e with g1;subst g1);exact q.imp λa p=>p.imp λvs p=>⟨p.1,p.2.2⟩
 ·exact(oy r (i:=i) e q).imp λa p=>p.imp λvs p=>p.2
 ·exact Hd (h.symm.trans e)
theorem xW{Q:V->List aa->Prop}{h:ay}{Z:List ag}(h0:Q .nil [])(h1:∀a t x xs,VR X h Z M a x->VL X h Z M t xs->Q (.cons a t) (x::xs)){l:V}{us:List aa}(r:VL X h Z M l us):Q l us:=by
 induction l using V.casesOn with
 |nil=>subst r;exact h0
 |cons a t=>refine bJ r λx xs ou q1 q2=>?_;clear r;subst ou;exact h1 a t x xs q1 q2
 |_=>exact eY r
theorem VL.shape{h:ay}{Z:List ag}{l:V}{us:List aa}(r:VL X h Z M l us):(l=.nil/\us=[])∨∃a t x xs,l=.cons a t/\us=x::xs/\VR X h Z M a x/\VL X h Z M t xs:=
 xW (Q:=λl us=>(l=.nil/\us=[])∨∃a t x xs,l=.cons a t/\us=x::xs/\VR X h Z M a x/\VL X h Z M t xs) (.inl ⟨rfl,rfl⟩) (λa t x xs q1 q2=>.inr (w3 a t x xs rfl rfl q1 q2)) r
theorem VL.len{h:ay}{Z:List ag}{l:V}{us:List aa}(q:VL X h Z M l us):aO l=us.length:=by
 induction us generalizing l with
 |nil=>exact xW (Q:=λl us=>us=[] ->aO l=us.length) (λY=>rfl) (λY Y Y Y Y Y e=>nomatch e) q rfl
 |cons x xs ih=>exact xW (Q:=λl us=>us=x::xs->aO l=us.length) (λe=>nomatch e) (λa t y ys Y q e=>congrArg aZ (ih (by refine HN e ?_;exact q)) |>.trans (by refine HN e ?_;rfl)) q rfl
structure VT(A:aM)(s:aj)(u u':aa)(b:Bool):Prop where
 eq:EqAt A s u u' b
 rc:RcAt A s u u' b
 rn:RcNeAt A s u u' (!b)
 same:u=u'->b=true
noncomputable def PM(X:Cx)(k:Nat)(v w:V)(B:Mm)(r:RB):Prop:=∀b ao,r=.ok b ao->Ok ao->Ok B/\ao.bk=B.bk/\
 ∀A N M s u u',A.units+k<cLine->Rd X N M s B->Vr X N M s v u->Vr X N M s w u'->VT A s u u' b
theorem xm{a b:S}(h:mkStr a=mkStr b):a=b:=by simpa [mkStr] using h
theorem FX(a b:S):(mkStr a==mkStr b)=(a==b):=by
 rw[tQ,beq_iff_eq,beq_iff_eq];exact⟨xm,congrArg mkStr⟩
noncomputable def Cg:aa->aa->Bool
 |.int i _,.int j _=>i==j
 |.str a _,.str b _=>a==b
 |_,_=>false
noncomputable def isK(u:aa):Prop:=(∃i t,u=.int i t)∨∃i t,u=.str i t
theorem HY(hu:isK u)(hu':isK u'):VT A s u u' (Cg u u'):=by
 rcases hu with⟨i,t,rfl⟩|⟨i,t,rfl⟩<;>rcases hu' with⟨i',t',rfl⟩|⟨i',t',rfl⟩
 ·exact⟨EqAt.int_int _ _ _ _,RcAt.int_int _ _ _ _,RcNeAt.int_int _ _ _ _,λh=>by(injection h with g1 g2;subst g1;subst g2);exact beq_self_eq_true i⟩
 ·exact⟨EqAt.int_str _ _ _ _,RcAt.int_str _ _ _ _,RcNeAt.int_str _ _ _ _,nofun⟩
 ·exact⟨EqAt.str_int _ _ _ _,RcAt.str_int _ _ _ _,RcNeAt.str_int _ _ _ _,nofun⟩
 ·exact⟨EqAt.str_str _ _ _ _,RcAt.str_str _ _ _ _,RcNeAt.str_str _ _ _ _,λh=>by(injection h with g1 g2;subst g1;subst g2);exact beq_self_eq_true i⟩
theorem Ci(e:flat v=true):(∃i,cb v=.ok i)∨∃i,cu v=.ok i:=by
 induction v using V.casesOn<;>first|exact .inl ⟨_,rfl⟩|exact .inr ⟨_,rfl⟩|exact absurd e nT
theorem jK(e:flat v=true){h:ay}{Z:List ag}(q:VR X h Z M v u):isK u:=
 (Ci e).imp (λp=>p.elim λi e=>⟨i,b7 e q⟩) λp=>p.elim λi e=>⟨_,b8 e q⟩
theorem ig{i:Int}(e:cb v=.ok i):flat v=true:=by induction v using V.casesOn<;>first|rfl|exact nxI e
theorem ij{i:S}(e:cu v=.ok i):flat v=true:=by induction v using V.casesOn<;>first|rfl|exact nxS e
noncomputable def Fl(X:Cx)(v w:V)(B:Mm)(r:RB):Prop:=∀b ao,r=.ok b ao->Ok ao->flat v=true/\flat w=true/\Ok B/\ao.bk=B.bk/\∀h Z M u u',VR X h Z M v u->VR X h Z M w u'->Cg u u'=b
theorem Fl.toS{k:Nat}{r:RB}(f:Fl X v w B r):PM X k v w B r:=λb ao e h=>
 have p:=f b ao e h
 (bL p.2.2.1 p.2.2.2.1 (λA N M s u u' Y rd q q'=>p.2.2.2.2 _ _ _ _ _ q q'▸HY (jK p.1 q) (jK p.2.1 q')))
theorem PN{i j:Int}(hv:cb v=.ok i)(hw:cb w=.ok j)(h:ay)(Z:List ag)(M:List Lc)(u u':aa)(q:VR X h Z M v u)(q':VR X h Z M w u'):Cg u u'=rX i j:=
 (b7 hv q).elim λt e=>(b7 hw q').elim λt' e'=>e▸e'▸(iG i j).symm
theorem PO{i j:S}(hv:cu v=.ok i)(hw:cu w=.ok j)(h:ay)(Z:List ag)(M:List Lc)(u u':aa)(q:VR X h Z M v u)(q':VR X h Z M w u'):Cg u u'=sEq i j:=
 (b8 hv q).elim λt e=>(b8 hw q').elim λt' e'=>e▸e'▸(FX i j).trans (fP i j).symm
theorem Xg{i:Int}{j:S}(hv:cb v=.ok i)(hw:cu w=.ok j)(h:ay)(Z:List ag)(M:List Lc)(u u':aa)(q:VR X h Z M v u)(q':VR X h Z M w u'):Cg u u'=false:=
 (b7 hv q).elim λt e=>(b8 hw q').elim λt' e'=>e▸e'▸rfl
theorem Xh{i:S}{j:Int}(hv:cu v=.ok i)(hw:cb w=.ok j)(h:ay)(Z:List ag)(M:List Lc)(u u':aa)(q:VR X h Z M v u)(q':VR X h Z M w u'):Cg u u'=false:=
 (b8 hv q).elim λt e=>(b7 hw q').elim λt' e'=>e▸e'▸rfl
theorem xX{y:Bool}{p b:Bool}{r:RB}(hr:r=sure y p B)(e:r=.ok b ao)(h:Ok ao):p=b/\Ok B/\ao.bk=B.bk:=by
 subst hr
 induction y with
 |true=>(injection e with g1 g2;subst g1;subst g2);exact bL rfl h rfl
 |false=>exact vu e h
theorem Rp(i:Int)(w:V)(B:Mm):(∃j y,cb w=.ok j/\Wt i w B=sure y (rX i j) B)∨(∃t,cu w=.ok t/\Wt i w B=sure true false B)∨Wt i w B=.no:=by
 induction w using V.casesOn<;>first|exact .inr (.inr rfl)|exact .inl ⟨_,true,rfl,rfl⟩|exact .inl ⟨_,false,rfl,rfl⟩|exact .inr (.inl (aQ _ rfl rfl))
theorem Mv(i:S)(w:V)(B:Mm):(∃j y,cu w=.ok j/\Hk i w B=sure y (sEq i j) B)∨(∃t,cb w=.ok t/\Hk i w B=sure true false B)∨Hk i w B=.no:=by
 induction w using V.casesOn<;>first|exact .inr (.inr rfl)|exact .inl ⟨_,true,rfl,rfl⟩|exact .inl ⟨_,false,rfl,rfl⟩|exact .inr (.inl (aQ _ rfl rfl))
theorem PQ{i:Int}(hv:cb v=.ok i):Fl X v w B (Wt i w B):=λb ao e h=>by
 rcases Rp i w B with⟨j,y,hw,hr⟩|⟨t,hw,hr⟩|hr
 ·have p:=xX hr e h;exact vj (ig hv) (ig hw) p.2.1 p.2.2 (λh Z M u u' q q'=>(PN hv hw h Z M u u' q q').trans p.1)
 ·have p:=xX hr e h;exact vj (ig hv) (ij hw) p.2.1 p.2.2 (λh Z M u u' q q'=>(Xg hv hw h Z M u u' q q').trans p.1)
 ·exact xl (hr.symm.trans e)
theorem HZ{i:S}(hv:cu v=.ok i):Fl X v w B (Hk i w B):=λb ao e h=>by
 rcases Mv i w B with⟨j,y,hw,hr⟩|⟨t,hw,hr⟩|hr
 ·have p:=xX hr e h;exact vj (ij hv) (ij hw) p.2.1 p.2.2 (λh Z M u u' q q'=>(PO hv hw h Z M u u' q q').trans p.1)
 ·have p:=xX hr e h;exact vj (ij hv) (ig hw) p.2.1 p.2.2 (λh Z M u u' q q'=>(Xh hv hw h Z M u u' q q').trans p.1)
 ·exact xl (hr.symm.trans e)
theorem xY{i:Int}(hv:cb v=.ok i):Fl X v w B (QU i w B):=λb ao e h=>jI nB e λj hw e=>
 have p:=vu e h
 (vj (ig hv) (ig hw) p.2.1 p.2.2 (λh Z M u u' q q'=>(PN hv hw h Z M u u' q q').trans p.1))
theorem H0{i:S}(hv:cu v=.ok i):Fl X v w B (Wu i w B):=λb ao e h=>jS nB e λj hw e=>
 have p:=vu e h
 (vj (ij hv) (ij hw) p.2.1 p.2.2 (λh Z M u u' q q'=>(PO hv hw h Z M u u' q q').trans p.1))
noncomputable def LN(A:aM)(s:aj)(us ws:List aa)(f:Nat->Bool):Prop:=∀j(h1:j<us.length)(h2:j<ws.length),EqAt A s us[j] ws[j] (f j)
theorem LN.cons{x y:aa}{us ws:List aa}{b:Bool}{f:Nat->Bool}(h:EqAt A s x y b)(hf:LN A s us ws f):LN A s (x::us) (y::ws) (λj=>Nat.rec b (λj Y=>f j) j):=λj h1 h2=>by
 induction j using dM with
 |zero=>exact h
 |succ j=>exact hf j (jy h1) (jy h2)
theorem all_cons(n:Nat)(b:Bool)(f:Nat->Bool):(cy (n+1)).all (λj=>Nat.rec b (λj Y=>f j) j)=(b&&(cy n).all f):=by
 refine ah List.range_succ_eq_map (ah iO (ah List.all_map ?_));rfl
theorem xn{h:ay}{Z:List ag}{l m:V}{us ws:List aa}(hf:sU l m=true)(q:VL X h Z M l us)(q':VL X h Z M m ws):∃f,LN A s us ws f:=by
 induction us generalizing l m ws with
 |nil=>exact⟨λY=>true,λj h1=>nomatch h1⟩
 |cons x xs ih=>
  rcases q.shape with⟨_,e⟩|⟨a,t,x',Ak,rfl,e,q1,q2⟩
  ·injection e
  ·injection e with g1 g2;subst g1;subst g2
   rcases q'.shape with⟨rfl,rfl⟩|⟨a',t',y,ys,rfl,rfl,q3,q4⟩
   ·exact⟨λY=>true,λj Y h2=>nomatch h2⟩
   ·have f1:=cx (show ek (flat a) (ek (flat a') (sU t t'))=true from hf);have f2:=cx f1.2;exact(ih f2.2 q2 q4).elim λf hp=>⟨_,.cons (HY (jK f1.1 q1) (jK f2.1 q3)).eq hp⟩
noncomputable def Xi(X:Cx)(k:Nat)(l m:V)(B:Mm)(r:RB):Prop:=∀b ao,r=.ok b ao->Ok ao->Ok B/\ao.bk=B.bk/\
 ∀A N M s us ws,A.units+k<cLine->Rd X N M s B->Vl X N M s l us->Vl X N M s m ws->us.length=ws.length->(∃f,LN A s us ws f/\b=(cy us.length).all f)/\(us=ws->b=true)
theorem Xi.cons{k:Nat}{x r y t:V}{c b:Bool}{e:RB}{pM:Mm}{o:Ok B}{st:pM.bk=B.bk}(g0:∀A N M s u u',A.units+k<cLine->Rd X N M s B->Vr X N M s x u->Vr X N M s y u'->VT A s u u' c)
  (g1:∀A N M s us ws,A.units+k<cLine->Rd X N M s pM->Vl X N M s r us->Vl X N M s t ws->us.length=ws.length->(∃f,LN A s us ws f/\(c=true->b=(cy us.length).all f))/\(c=true->us=ws->b=true)) (hb:c=false->b=false) (st':ao.bk=pM.bk):
  Ok B/\ao.bk=B.bk/\∀A N M s us ws,A.units+k<cLine->Rd X N M s B->Vl X N M s (.cons x r) us->Vl X N M s (.cons y t) ws->us.length=ws.length->(∃f,LN A s us ws f/\b=(cy us.length).all f)/\(us=ws->b=true):=by
 refine(bL o (st'.trans st) (λA N M s us ws hu rd q q' hl=>?_));refine bJ q λx1 xs vy q1 q2=>?_;clear q;subst vy;refine bJ q' λy1 ys q_ q3 q4=>?_;clear q';subst q_;have p:=g1 A N M s xs ys hu (by rw[Rd,st];exact rd) q2 q4 (fO hl);have p0:=g0 A N M s x1 y1 hu rd q1 q3;refine⟨p.1.elim λf hf=>(aQ _ (.cons p0.eq hf.1) ?_),λhe=>?_⟩
 ·rw[ey,all_cons]
  induction c with
  |true=>exact hf.2 rfl
  |false=>exact hb rfl
 ·injection he with h1 h2;exact p.2 (p0.same h1) h2
theorem PR{k:Nat}{f:V->V->Mm->RB}(hf:∀v w B,PM X k v w B (f v w B))(l:V):∀(m:V)(B:Mm),Xi X k l m B (Hj f l m B):=by
 induction l using Mq with
 |nil=>
  intro m B b ao e h;refine vn nB e λhm e=>?_;injection e with g1 g2;subst g1;subst g2
  exact⟨h,rfl,λA N M s us ws Y Y q q' Y=>by subst hm;subst q;subst q';exact⟨(aQ (λY=>true) (λj h1=>(nomatch h1)) rfl),λY=>rfl⟩⟩
 |PI v h1 h2=>exactλm B b ao e=>xl ((congrFun (congrFun (h2 (V->Mm->RB) (λY Y=>.no) (λm B=>V.j4 (H:=RB) .no (.ok true B) m) _) m) B).symm.trans e)
 |cons x r ih=>
  intro m B b ao e h;refine lW nB e λy t hm e=>?_;subst hm;refine jB nB (show eqT (sU r t) (f x y B) (Hj f r t)=_ from e) λc pM hc e=>?_
  induction c with
  |true=>
   refine c_ (ih t pM b ao e h) λRr Rt pq3=>?_;have p0:=hf x y B true pM hc Rr;exact Xi.cons (o:=p0.1) (st:=p0.2.1) (e:=.no) p0.2.2 (λA N M s us ws hu rd q q' hl=>⟨(pq3 A N M s us ws hu rd q q' hl).1.imp λf hf=>⟨hf.1,λY=>hf.2⟩,λY=>(pq3 A N M s us ws hu rd q q' hl).2⟩) nofun Rt
  |false=>
   refine cBool (sU r t) (λhr=>?_) (λhr=>?_)
   ·rw[hr] at e;refine jB nB (show Ws (Hj f r t pM)=_ from e) λb' μ2 hk e=>?_;injection e with g1 g2;subst g1;subst g2
    refine c_ (ih t pM b' _ hk h) λRr Rt pq3=>?_;have p0:=hf x y B false pM hc Rr;exact Xi.cons (o:=p0.1) (st:=p0.2.1) (e:=.no) p0.2.2 (λA N M s us ws hu rd q q' hl=>⟨(pq3 A N M s us ws hu rd q q' hl).1.imp λf hf=>⟨hf.1,nofun⟩,nofun⟩) (λY=>rfl) Rt
   ·rw[hr] at e;injection e with g1 g2;subst g1;subst g2
    have p0:=hf x y B false _ hc h;exact Xi.cons (o:=p0.1) (st:=p0.2.1) (e:=.no) p0.2.2 (λA N M s us ws hu rd q q' hl=>⟨(xn hr q q').imp λf hf=>⟨hf,nofun⟩,nofun⟩) (λY=>rfl) rfl
end
end
set_option backward.match.sparseCases true
section
open PySem.SeqAt
section
variable{X:Cx}{A:aM}{N:List ag}{M:List Lc}{s s':aj}{v w:V}{u u':aa}{B ao:Mm}
theorem ta{a b:Nat}(h:aC a b=true):a=b:=eJ h
theorem Cj{a b:Nat}(h:aC a b=false):a≠b:=zK h
theorem H3{k:Nat}(h:A.units+(k+1)<cLine):A.in1.units+k<cLine:=by show A.units+1+k<cLine;rw[jz,uh 1];exact h
theorem lZ{k:Nat}(h:A.units+k<cLine):A.units<cLine:=dR (iR _ _) h
theorem LN.arr{us ws:Array aa}{f:Nat->Bool}(h:LN A.in1 s us.toList ws.toList f)(j:Nat)(h1:j<us.size)(h2:j<ws.size):EqAt A.in1 s us[j] ws[j] (f j):=h j h1 h2
theorem H4{h:ay}{a:ag}{vs ws:Array aa}(h1:IsTup h a vs)(h2:IsTup h a ws):vs=ws:=by
 refine bQ h1 λo e Y Ah=>?_;clear h1;refine bc Ah λn d=>?_;clear Ah;refine bQ h2 λo' e' Y vp=>?_;clear h2;refine bc vp λn' d'=>?_;clear vp
 cases e.symm.trans e'
 cases d.symm.trans d'
 rfl
theorem xo{h:ay}{a:ag}{vs ws:Array aa}(h1:h.IsList a vs)(h2:h.IsList a ws):vs=ws:=by
 refine bQ h1 λo e Y DV=>?_;clear h1;refine bc DV λn d=>?_;clear DV;refine bQ h2 λo' e' Y DW=>?_;clear h2;refine bc DW λn' d'=>?_;clear DW
 cases e.symm.trans e'
 cases d.symm.trans d'
 rfl
theorem Ck{a a':ag}{b:Bool}(e1:RcAt A s (.ref a) (.ref a') b)(e2:RcNeAt A s (.ref a) (.ref a') (!b))(hs:a=a'->b=true):VT A s (.ref a) (.ref a') b:=by
 by_cases qk:a=a'
 ·cases hs qk
  exact⟨qk▸EqAt.same _,e1,e2,λY=>rfl⟩
 ·exact⟨EqAt.of_refs qk e1,e1,e2,λe=>absurd (by injection e) qk⟩
theorem size_of{l:V}{us:Array aa}{h:ay}{Z:List ag}(q:VL X h Z M l us.toList):aO l=us.size:=q.len.trans (d6 ..)
theorem Mw{k:Nat}{f:V->V->Mm->RB}(hf:∀v w B,PM X k v w B (f v w B))(l:V):PM X (k+1) (.tup l) w B (Pu f l w B):=λb ao e h=>Rh nB e λm hm e=>by
 subst hm;have e:B1 f l m B=.ok b ao:=e
 have k2:∀{A:aM}{s:aj}{a a':ag}{us ws:Array aa}{g:Nat->Bool},A.units+(k+1)<cLine->IsTup s.heap a us->IsTup s.heap a' ws->LN A.in1 s us.toList ws.toList g->b=((cy (min us.size ws.size)).all g&&us.size==ws.size)->(us=ws->b=true)->VT A s (.ref a) (.ref a') b:=
  λhu i1 i2 hp hb hs=>Ck (hb▸RcAt.tuples i1 i2 (lZ hu) hp.arr) (hb▸RcNeAt.tuples i1 i2 (lZ hu) hp.arr) λe=>hs (H4 i1 (e▸i2))
 unfold B1 at e;refine cBool (aC (aO l) (aO m)) (λhl=>?_) (λhl=>?_);rotate_left
 ·replace e:=hl▸e;have p:=PR (X:=X) hf l m B b ao e h;refine(bL p.1 p.2.1 (λA N M s u u' hu rd q q'=>?_));refine iZ q λa us ot Y i1 v1=>?_;clear q;subst ot;refine iZ q' λa' ws ou Y i2 v2=>?_;clear q';subst ou;have el:us.size=ws.size:=(size_of v1).symm.trans ((ta hl).trans (size_of v2));have g:=p.2.2 A.in1 N M s us.toList ws.toList (H3 hu) rd v1 v2 (ah d6 (ah d6 (ah el rfl)));exact g.1.elim λf hp=>k2 hu i1 i2 hp.1 (by rw[hp.2,←el,Nat.min_self,beq_self_eq_true,qo,d6]) λe=>g.2 (e▸rfl)
 ·replace e:=hl▸e;refine jT nB e λhfl e=>?_;injection e with g1 g2;subst g1;subst g2
  refine(bL h rfl (λA N M s u u' hu rd q q'=>?_));refine iZ q λa us vy Y i1 v1=>?_;clear q;subst vy;refine iZ q' λa' ws q_ Y i2 v2=>?_;clear q';subst q_;have hlen:us.size≠ws.size:=λe=>Cj hl ((size_of v1).trans (e.trans (size_of v2).symm));exact(xn (A:=A.in1) (s:=s) hfl v1 v2).elim λf hp=>k2 hu i1 i2 hp (by rw[beq_eq_false_iff_ne.mpr hlen,tR]) λe=>absurd (e▸rfl) hlen
theorem DX{k:Nat}{f:V->V->Mm->RB}(hf:∀v w B,PM X k v w B (f v w B)):PM X (k+1) v w B (uZ f (dY v B) (dY w B) B):=λb ao e h=>jV nB e λl LP e=>jV nB e λm Ru e=>by
 have e:B2 f l m B=.ok b ao:=e;unfold B2 at e;refine cBool (aC (aO l) (aO m)) (λhl=>?_) (λhl=>?_);rotate_left
 ·replace e:=hl▸e;have p:=PR (X:=X) hf l m B b ao e h;refine(bL p.1 p.2.1 (λA N M s u u' hu rd q q'=>?_));refine bJ (dj rd LP q) λa us ra i1 v1=>?_;subst ra;refine bJ (dj rd Ru q') λa' ws vq i2 v2=>?_;subst vq;have el:us.size=ws.size:=(size_of v1).symm.trans ((ta hl).trans (size_of v2));have g:=p.2.2 A.in1 N M s us.toList ws.toList (H3 hu) rd v1 v2 (ah d6 (ah d6 (ah el rfl)));exact g.1.elim λf hp=>Ck (hp.2▸RcAt.lists i1 i2 el (lZ hu) hp.1.arr) (hp.2▸RcNeAt.lists i1 i2 el (lZ hu) hp.1.arr) λe=>g.2 (xo i1 (e▸i2)▸rfl)
 ·replace e:=hl▸e;injection e with g1 g2;subst g1;subst g2
  refine(bL h rfl (λA N M s u u' hu rd q q'=>?_));refine bJ (dj rd LP q) λa us pY i1 v1=>?_;subst pY;refine bJ (dj rd Ru q') λa' ws vt i2 v2=>?_;subst vt;have hlen:us.size≠ws.size:=λe=>Cj hl ((size_of v1).trans (e.trans (size_of v2).symm));exact Ck (RcAt.lists_lengths i1 i2 (bne_iff_ne.mpr hlen) (lZ hu)) (RcNeAt.lists_lengths i1 i2 (bne_iff_ne.mpr hlen) (lZ hu)) λe=>absurd (xo i1 (e▸i2)▸rfl) hlen
theorem Xj:∀n v w B,PM X n v w B (xN n v w B):=by
 intro n
 induction n with
 |zero=>exactλv w B b ao e=>xl e
 |succ n ih=>
  intro v w B;show PM X (n+1) v w B (eqS (xN n) v w B)
  induction v using V.casesOn with
  |int i=>exact(PQ rfl).toS
  |sym i=>exact(xY rfl).toS
  |rV a k=>exact(xY rfl).toS
  |str i=>exact(HZ rfl).toS
  |ak i=>exact(H0 rfl).toS
  |tup l=>exact Mw ih l
  |lst l=>exact DX (v:=.lst l) ih
  |loc i=>exact DX (v:=.loc i) ih
  |_=>exactλb ao e=>xl e
def Mx(X:Cx)(f:aa->aa->Sem aa)(v w:V)(B:Mm)(r:RB):Prop:=∀b ao,r=.ok b ao->Ok ao->Ok B/\ao.bk=B.bk/\
 ∀A N M s u u'(Q:aa->aj->Prop),Rl A->Rd X N M s B->Vr X N M s v u->Vr X N M s w u'->(∀k,Q (.bool b) {s with toks:=k})->wpAny (model X.prog X.w) A (f u u') Q E0 s
theorem tj{r:RB}{b:Bool}(e:u1 r=.ok b ao):r=.ok (!b) ao:=jB nB e λc B h e=>by(injection e with g1 g2;subst g1;subst g2);rw[h,Aj,nC]
theorem PT{b:Bool}(e:Hl v w B=.ok b ao)(h:Ok ao):Ok B/\ao.bk=B.bk/\∀A N M s u u',Rl A->Rd X N M s B->Vr X N M s v u->Vr X N M s w u'->VT A s u u' b:=
 have p:=Xj (X:=X) 8 v w B b ao e h
 (bL p.1 p.2.1 (λA N M s u u' hu=>p.2.2 A N M s u u' (dR (n6 (by decide) _) hu.2)))
theorem Rv:Mx X (compareOp .Eq) v w B (Hl v w B):=λb ao e o=>
 have p:=PT (X:=X) e o
 (bL p.1 p.2.1 (λA N M s u u' Q hu rd q q' hq=>(p.2.2 A N M s u u' hu rd q q').rc _ _ _ _ (hq s.toks)))
theorem Rw:Mx X (compareOp .NotEq) v w B (u1 (Hl v w B)):=λb ao e o=>
 have p:=PT (X:=X) (tj e) o
 (bL p.1 p.2.1 (λA N M s u u' Q hu rd q q' hq=>(p.2.2 A N M s u u' hu rd q q').rn _ _ _ _ (by rw[nC];exact hq s.toks)))
end
end
section
open PySem.SeqAt
section
variable{X:Cx}{A:aM}{N:List ag}{M:List Lc}{s s':aj}{v w:V}{u u':aa}{B ao:Mm}
theorem mL{y p b:Bool}(e:sure y p B=.ok b ao)(h:Ok ao):p=b/\Ok B/\ao.bk=B.bk:=by
 unfold sure at e
 induction y with
 |true=>(injection e with g1 g2;subst g1;subst g2);exact⟨rfl,h,rfl⟩
 |false=>exact vu e h
theorem DY:∀a b:S,FG a b= !decide (b<a)
 | [],b=>by
  have:¬b< [] :=List.not_lt_nil b;refine ah (decide_eq_false this) ?_;rfl
 |x::r,[] =>by
  have:([] :S)<x::r:=List.nil_lt_cons x r;refine ah (decide_eq_true this) ?_;rfl
 |x::r,y::t=>by
  show(@Bool.rec (λY=>Bool) (@Bool.rec (λY=>Bool) false (FG r t) (aC x y)) true (a9 x y))=_;refine ah (DY r t) ?_;have key:(y::t<x::r)↔(y<x∨(y=x/\t<r)):=List.cons_lt_cons_iff;refine cW (a9 x y) (λh1=>?_) (λh1=>?_);rotate_left
  ·have h1:=cF.mp h1
   have:¬(y::t<x::r):=λh=>by rcases key.mp h with h|⟨h,_⟩<;>omega
   refine ah (decide_eq_false this) ?_;rfl
  ·have h1:¬x<y:=λh=>by rw[cF.mpr h] at h1;exact absurd h1 nF
   refine cW (aC x y) (λh2=>?_) (λh2=>?_);rotate_left
   ·have h2:=ta h2;subst h2
    have:decide (x::t<x::r)=decide (t<r):=by
     rw[decide_eq_decide,key];constructor
     ·rintro(h|⟨_,h⟩)
      ·exact absurd (by assumption) (jW _)
      ·exact h
     ·exactλh=>.inr ⟨rfl,h⟩
    exact ah this rfl
   ·have h2:=Cj h2
    have:y::t<x::r:=key.mpr (.inl (by omega));refine ah (decide_eq_true this) ?_;rfl
theorem kM(c:Nat):∀l:S,z5 c l=decide (c∈l):=by
 intro zr
 induction zr with
 |nil=>
  exact by simp[z5]
 |cons b t bN=>
  exact by
   show(@Bool.rec (λY=>Bool) (z5 c t) true (aC b c))=_;refine ah (bN) ?_;refine cW (aC b c) (λh=>?_) (λh=>?_);rotate_left
   ·have:=ta h;subst this;simp
   ·have:=Cj h;simp[jC this]
theorem oA(r:ag)(a b c:Int)(t u v:Tok)(i:Int)(k:Tok):
  Meets (Builtin.«range.__contains__» ⟨[.ref r,.int i k],[]⟩) (λA R s=>IsRange s.heap r a b c t u v/\R (.ok (.ret (.bool (uI a b c i).isSome))) s):=by
 intro prog w A R s h;obtain⟨hp,g,d,tk,os⟩:=s;obtain⟨hl,h⟩:=h;unfold Builtin.«range.__contains__»;show wpAny _ _ (rule "range.contains.reckoned" >>= _) _ _ _;refine ax (wpAny_rule ?_);refine ax ?_;unfold Builtin.Range.rangeFields;refine ax (wpAny_field hl rfl (x:=.int a t) rfl ?_);refine ax (qI (a:=some a) rfl ?_);refine ax (wpAny_field hl rfl (x:=.int b u) rfl ?_);refine ax (qI (a:=some b) rfl ?_);refine ax (wpAny_field hl rfl (x:=.int c v) rfl ?_);refine ax (qI (a:=some c) rfl ?_);exact aX (aX h)
theorem FY{i a b d:Int}(h:0<d):Ho i a b d=(uI a b d i).isSome:=by
 unfold Ho uI;rw[vw,vw,eL,bj,iG];simp only[gt_iff_lt,h,if_true]
 have:Int.emod (bP i a) d=(i - a)% d:=rfl;refine ah this ?_
 by_cases h1:a≤i<;>by_cases h2:i<b<;>by_cases h3:(i - a)% d=0<;>simp[h1,h2,h3]
end
end
section
open PySem.SeqAt
section
variable{X:Cx}{A:aM}{N:List ag}{M:List Lc}{s s':aj}{v w:V}{u u':aa}{B ao:Mm}
theorem Al(e:flat v=true)(e':flat w=true){h:ay}{Z:List ag}(q:VR X h Z M v u)(q':VR X h Z M w u'):EqAt A s u u' (Cg u u'):=(HY (jK e q) (jK e' q')).eq
theorem Cm(h:flat w=true):dY w B=.no:=by induction w using V.casesOn<;>first|rfl|exact absurd h nT
theorem An{f:V->V->Mm->RB}{o:OV}(h:flat w=true):uZ f o (dY w B) B=.no:=by refine ah (Cm h) ?_;induction o<;>rfl
theorem Ao(hw:flat w=true):Fl X v w B (Hl v w B):=by
 show Fl X v w B (eqS (xN 7) v w B)
 induction v using V.casesOn with
 |int i=>exact PQ rfl
 |sym i=>exact xY rfl
 |rV a k=>exact xY rfl
 |str i=>exact HZ rfl
 |ak i=>exact H0 rfl
 |tup l=>exactλb ao e Y=>Rh nB e λm hm Y=>by subst hm;exact absurd hw nT
 |lst l=>exactλb ao e Y=>xl ((An (f:=xN 7) (o:=.ok l) hw).symm.trans e)
 |loc i=>exactλb ao e Y=>xl ((An (f:=xN 7) (o:=dF (bk B i)) hw).symm.trans e)
 |_=>exactλb ao e Y=>xl e
theorem Ap{h:ay}{Z:List ag}:∀{l:V}{us:List aa},pI l=true->VL X h Z M l us->∀y∈us,∃v,flat v=true/\VR X h Z M v y:=by
 intro l us
 induction us generalizing l with
 |nil=>intro _ _ y hy;cases hy
 |cons x xs ih=>
  intro hf q y hy
  rcases q.shape with⟨_,e⟩|⟨a,t,x',Ak,rfl,e,q1,q2⟩
  ·injection e
  ·refine eQ λkk=>?_;injection e with g1 g2;subst g1;subst g2
   refine aD (cx (show ek (flat a) (pI t)=true from hf)) λf1 f2=>?_;refine kk ?_
   rcases aR.mp hy with rfl|hy
   ·exact aQ a f1 q1
   ·exact ih f2 q2 y hy
theorem Rx(hw:flat w=true)(l:V):∀(B:Mm)(b:Bool)(ao:Mm),u0 w l B=.ok b ao->Ok ao->Ok B/\ao.bk=B.bk/\
  ∀h Z M us u',VL X h Z M l us->VR X h Z M w u'->(∀y∈us,∃v,flat v=true/\VR X h Z M v y)/\us.any (λy=>Cg y u')=b:=by
 induction l using Mq with
 |nil=>
  intro B b ao e h;injection e with g1 g2;subst g1;subst g2
  exact⟨h,rfl,λh Z M us u' q q'=>by subst q;exact⟨nofun,rfl⟩⟩
 |PI v h1 h2=>intro B b ao e;exact xl ((congrFun (h2 (Mm->RB) (λY=>.no) (λB=>.ok false B) _) B).symm.trans e)
 |cons x r ih=>
  intro B b ao e h;refine jB nB (show neT (pI r) (Hl x w B) (u0 w r)=_ from e) λc pM hc e=>?_
  have k:∀{o:Ok pM}{h:ay}{Z:List ag}{M:List Lc}{us:List aa}{u':aa},VL X h Z M (.cons x r) us->VR X h Z M w u'->(∀xs,VL X h Z M r xs->(∀y∈xs,∃v,flat v=true/\VR X h Z M v y)/\(c||xs.any (λy=>Cg y u'))=b)->(∀y∈us,∃v,flat v=true/\VR X h Z M v y)/\us.any (λy=>Cg y u')=b:=λ{o h Z M us u'} q q' k=>by
   refine bJ q λx1 xs fF q1 q2=>?_;clear q;subst fF;have p:=Ao (X:=X) hw c _ hc o;exact⟨λy hy=>(aR.mp hy).elim (λe=>(aQ x p.1 (e▸q1))) ((k xs q2).1 y),by refine ah List.any_cons (ah (p.2.2.2.2 _ _ _ _ _ q1 q') ?_);exact(k xs q2).2⟩
  induction c with
  |true=>
   refine jT nB e λhr e=>?_;injection e with g1 g2;subst g1;subst g2
   have p:=Ao (X:=X) hw true _ hc h;exact bL p.2.2.1 p.2.2.2.1 (λh' Z M us u' q q'=>k (o:=h) q q' λxs q2=>⟨Ap hr q2,rfl⟩)
  |false=>
   have p1:=ih pM b ao e h;have p:=Ao (X:=X) hw false _ hc p1.1;exact bL p.2.2.1 (p1.2.1.trans p.2.2.2.1) (λh' Z M us u' q q'=>k (o:=p1.1) q q' λxs q2=>p1.2.2 h' Z M xs u' q2 q')
structure InT(X:Cx)(A:aM)(s:aj)(x c:aa)(b:Bool):Prop where
 yes:∀(Q:aa->aj->Prop),(∀k,Q (.bool b) {s with toks:=k})->wpAny (model X.prog X.w) A (compareOp .In x c) Q E0 s
 no:∀(Q:aa->aj->Prop),(∀k,Q (.bool (!b)) {s with toks:=k})->wpAny (model X.prog X.w) A (compareOp .NotIn x c) Q E0 s
def PU(X:Cx)(v w:V)(B:Mm)(r:RB):Prop:=∀b ao,r=.ok b ao->Ok ao->Ok B/\ao.bk=B.bk/\
 ∀A N M s u u',Rl A->Rd X N M s B->Vr X N M s v u->Vr X N M s w u'->InT X A s u u' b
theorem Aq{l:V}{b:Bool}(e:QW v l B=.ok b ao)(h:Ok ao):Ok B/\ao.bk=B.bk/\∀(A:aM) N M s u(us:Array aa),Rd X N M s B->Vr X N M s v u->VL X s.heap (N++foot M) M l us.toList->
  (∀y,y∈us->EqAt A.in1 s y u (Cg y u))/\us.any (λy=>Cg y u)=b:=jT nB e λhf e=>by
 have p:=Rx (X:=X) hf l B b ao e h;refine(bL p.1 p.2.1 (λA N M s u us rd q q'=>?_));have g:=p.2.2 _ _ _ _ _ q' q;exact⟨λy hy=>(g.1 y (nv.mpr hy)).elim λv' p=>Al p.1 hf p.2 q,by refine eV Array.any_toList ?_;exact g.2⟩
theorem Ry{l:V}:PU X v (.tup l) B (QW v l B):=λb ao e h=>by
 have p:=Aq (X:=X) e h;refine(bL p.1 p.2.1 (λA N M s u u' Y rd q q'=>?_));refine iZ q' λa us l_ Y i1 v1=>?_;clear q';subst l_;have g:=p.2.2 A N M s u us rd q v1;exact⟨λQ hq=>in_tupleAt _ i1 g.1 (by refine ah g.2 ?_;exact hq s.toks),λQ hq=>notIn_tupleAt _ i1 g.1 (by refine ah g.2 ?_;exact hq s.toks)⟩
theorem Cn{l:V}(hl:dY w B=.ok l):PU X v w B (QW v l B):=λb ao e h=>by
 have p:=Aq (X:=X) e h;refine(bL p.1 p.2.1 (λA N M s u u' Y rd q q'=>?_));refine bJ (dj rd hl q') λa us kg i1 v1=>?_;subst kg;have g:=p.2.2 A N M s u us rd q v1;exact⟨λQ hq=>in_listAt _ i1 g.1 (by refine ah g.2 ?_;exact hq s.toks),λQ hq=>notIn_listAt _ i1 g.1 (by refine ah g.2 ?_;exact hq s.toks)⟩
theorem Rz{y:Bool}{a t:S}(hv:cu v=.ok a)(hw:cu w=.ok t):PU X v w B (Ww y a t B):=λb ao e h=>by
 rcases a with _|⟨c,_|_⟩
 ·exact xl e
 ·have p:=mL (y:=y) e h;refine(bL p.2.1 p.2.2 (λA N M s u u' Y rd q q'=>(b8 hv q).elim λt1 e1=>(b8 hw q').elim λt2 e2=>e1▸e2▸ ?_));have key:(!(Builtin.Str.occurrences (mkStr t) (mkStr [c]) 0 (mkStr t).length 1).isEmpty)=b:=by rw[←p.1,kM];exact StrLaws.found_one (mkStr t) c
  exact⟨λQ hq=>P.in_str (by refine ah key ?_;exact hq s.toks),λQ hq=>P.notIn_str (by refine ah key ?_;exact hq s.toks)⟩
 ·exact xl e
theorem PV{y:Bool}{t:S}(hw:cu w=.ok t):PU X v w B (inS y v t B):=λb ao e h=>jS nB e λa hv e=>Rz hv hw b ao e h
theorem Xk{x y d:Int}:PU X v (.om x y d) B (inR v x y d B):=λb ao e h=>jT nB e λhd e=>jI nB e λi hv e=>by
 rw[bj,decide_eq_true_iff] at hd;have p:=mL e h;refine(bL p.2.1 p.2.2 (λA N M s u u' Y rd q q'=>(b7 hv q).elim λt1 e1=>e1▸ ?_));refine ve q' λr t2 t3 t4 H5 Y hr Y=>?_;clear q';subst H5;have e1:=p.1;rw[FY hd] at e1
 exact⟨λQ hq=>SeqRoads2.in_meets (aQ _ hr rfl) zS zT (zU _ _) (oA r x y d t2 t3 t4 i t1) ⟨hr,_,rfl,by refine ah e1 ?_;exact hq s.toks⟩,
  λQ hq=>SeqRoads2.notIn_meets (aQ _ hr rfl) zS zT (zU _ _) (oA r x y d t2 t3 t4 i t1) ⟨hr,_,rfl,by refine ah e1 ?_;exact hq s.toks⟩⟩
end
end
section
open PySem.SeqAt
section
variable{X:Cx}{A:aM}{N:List ag}{M:List Lc}{s s':aj}{v w:V}{u u':aa}{B ao:Mm}
noncomputable def DR(X:Cx)(h:ay)(Z:List ag)(M:List Lc)(l:V)(a:ag):Prop:=(a==sysModules)=false/\((∃f,h.MapOf (strKind X.prog X.w) a f/\BR X h Z M l f/\∀s u,f (mkStr s)=some u->xT l s)∨(∃f,h.MapOf (intKind X.prog X.w) a f/\o8 X h Z M l f/\(∀i u,f i=some u->pC l i)/\l≠ .nil))
theorem H6{o:OO}{l:V}(e:DB o=.ok l):o=.ok (.dict l):=by
 rcases o with _|q
 ·exact absurd e nO
 ·induction q<;>first|exact Hd e|((injection e with g1;subst g1);rfl)
theorem F0(v:V)(B:Mm):(∃l,v=.wX l)∨(∃i,v=.loc i)∨Mine.Internal.dictOf v B=.no:=by
 induction v using V.casesOn<;>first|exact .inr (.inr rfl)|exact .inl ⟨_,rfl⟩|exact .inr (.inl ⟨_,rfl⟩)
theorem jL(r:Rd X N M s B){l:V}(e:Mine.Internal.dictOf v B=.ok l)(q:Vr X N M s v u):∃a,u=.ref a/\DR X s.heap (N++foot M) M l a:=by
 rcases F0 v B with⟨m,rfl⟩|⟨i,rfl⟩|h
 ·injection e with g1;subst g1;exact q.imp λa p=>⟨p.1,p.2.2⟩
 ·refine aL (kK r (H6 (o:=bk B i) e)) λp hp i6=>?_;refine bQ i6 λa i7 h1 h2=>?_;clear i6;subst i7;refine bQ q λp' kf Y Xl=>?_;clear q;subst Xl
  cases hp.symm.trans kf
  exact bS a rfl h1 (h2.imp (λ⟨gh,d,a1,a2,_⟩=>(bS _ d.mapOf a1 a2)) λ⟨gh,d,a1,a2,_,a3⟩=>(vm _ d.mapOf a1 a2 a3))
 ·exact Hd (h.symm.trans e)
theorem vz{x:V}{r:RB}{k:Mm->RO}{o:RO}(n:RO.no≠o)(e:LY x r k=o){Q:Prop}(h1:∀pM,r=.ok true pM->o=.Hb x pM->Q)(h2:∀pM,r=.ok false pM->k pM=o->Q):Q:=
 jB n e λb pM hr e=>match b,hr,e with
  |true,hr,e=>h1 pM hr e.symm
  |false,hr,e=>h2 pM hr e
theorem Xm{y:Bool}{F:Type}{D:V->Mm->RO}{P:V->Prop}{R:ay->List ag->List Lc->V->F->Prop}{g:F->Option aa}(h0:∀B,D .nil B=.Ha B)(n0:¬P .nil)
  (hk:∀k z r,(∃b,(∀B,D (.kv k z r) B=LY z (sure y b B) (D r))/\(P (.kv k z r)->b=true∨P r)/\∀h Z M f,R h Z M (.kv k z r) f->(b=true->∃u,g f=some u/\VR X h Z M z u)/\R h Z M r f)∨∀B,D (.kv k z r) B=.no)
  (ho:∀v,(∀(H:Type)(d n:H) f,V.rk d n f v=d)->∀B,D v B=.no) (l:V):∀B,(∀z ao,D l B=.Hb z ao->Ok ao->Ok B/\ao.bk=B.bk/\∀h Z M f,R h Z M l f->∃u,g f=some u/\VR X h Z M z u)/\(∀ao,D l B=.Ha ao->Ok ao->Ok B/\ao.bk=B.bk/\¬P l):=by
 induction l using abm with
 |nil=>intro B;rw[h0];exact⟨nofun,λao e h=>by(injection e with g1;subst g1);exact(bL h rfl n0)⟩
 |kv k z r ih=>
  intro B
  rcases hk k z r with⟨b,e,hp,hf⟩|e
  ·rw[e];refine⟨λz' ao e h=>vz nR e (λpM e1 e2=>?_) λpM e1 e2=>?_,λao e h=>vz nN e nofun λpM e1 e2=>?_⟩
   ·refine eQ λkk=>?_;injection e2 with g1 g2;subst g1;subst g2
    refine c_ (mL e1 h) λp o st=>?_;refine kk ?_;exact bL o st (λh Z M f q=>(hf h Z M f q).1 p)
   ·refine eQ λkk=>?_;refine c_ ((ih pM).1 z' ao e2 h) λo1 Xn g=>?_;refine c_ (mL e1 o1) λY o st=>?_;refine kk ?_;exact bL o (Xn.trans st) (λh Z M f q=>g h Z M f (hf h Z M f q).2)
   ·refine eQ λkk=>?_;refine c_ ((ih pM).2 ao e2 h) λo1 Xn g=>?_;refine c_ (mL e1 o1) λp o st=>?_;refine kk ?_;exact bL o (Xn.trans st) (λq=>(hp q).elim (λq=>nF (q.symm.trans p)) g)
  ·rw[e];exact⟨nofun,nofun⟩
 |PI v h=>intro B;rw[ho v h];exact⟨nofun,nofun⟩
theorem RA{y:Bool}{x:S}(l:V)(B:Mm):(∀z ao,Hm y x l B=.Hb z ao->Ok ao->Ok B/\ao.bk=B.bk/\∀h Z M f,BR X h Z M l f->∃u,f (mkStr x)=some u/\VR X h Z M z u)/\
  (∀ao,Hm y x l B=.Ha ao->Ok ao->Ok B/\ao.bk=B.bk/\¬xT l x):=
 Xm (D:=Hm y x) (P:=λl=>xT l x) (R:=BR X) (g:=λf=>f (mkStr x)) (y:=y) (λY=>rfl) (λh=>h) (λk z r=>by
  rcases W_ k with⟨t,rfl⟩|h
  ·exact .inl (bS (sEq t x) (λY=>rfl) (.imp (λe=>by rw[fP,e];simp) id) (λh Z M f q=>⟨λe=>by rw[fP,beq_iff_eq] at e;exact e▸q.1,q.2⟩))
  ·exact .inr (congrFun (h _ _ _))) (λv h=>congrFun (h _ _ _ _)) l B
theorem H7{y:Bool}{x:Int}(l:V)(B:Mm):(∀z ao,Hn y x l B=.Hb z ao->Ok ao->Ok B/\ao.bk=B.bk/\∀h Z M f,o8 X h Z M l f->∃u,f x=some u/\VR X h Z M z u)/\
  (∀ao,Hn y x l B=.Ha ao->Ok ao->Ok B/\ao.bk=B.bk/\¬pC l x):=
 Xm (D:=Hn y x) (P:=λl=>pC l x) (R:=o8 X) (g:=λf=>f x) (y:=y) (λY=>rfl) (λh=>h) (λk z r=>by
  rcases HO k with⟨t,rfl⟩|h
  ·exact .inl (bS (rX t x) (λY=>rfl) (.imp (λe=>by rw[iG,decide_eq_true e]) id) (λh Z M f q=>⟨λe=>by rw[iG,decide_eq_true_iff] at e;exact e▸q.1,q.2⟩))
  ·exact .inr (congrFun (h _ _ _))) (λv h=>congrFun (h _ _ _ _)) l B
theorem H8{Q:V->Prop}{h:ay}{Z:List ag}{f:Str->Option aa}(h0:Q .nil)(h1:∀k z r,Q (.kv (.str k) z r)){l:V}(q:BR X h Z M l f):Q l:=by
 induction l using V.casesOn with
 |kv k z r=>induction k using V.casesOn<;>first|exact h1 _ _ _|exact eY q
 |_=>first|exact h0|exact eY q
theorem H9{Q:V->Prop}{h:ay}{Z:List ag}{f:Int->Option aa}(h0:Q .nil)(h1:∀k z r,Q (.kv (.int k) z r)){l:V}(q:o8 X h Z M l f):Q l:=by
 induction l using V.casesOn with
 |kv k z r=>induction k using V.casesOn<;>first|exact h1 _ _ _|exact eY q
 |_=>first|exact h0|exact eY q
theorem vA{l:V}{h:ay}{Z:List ag}{f:Str->Option aa}(q:BR X h Z M l f):l=.nil∨∃k z r,l=.kv (.str k) z r:=H8 (Q:=λl=>l=.nil∨∃k z r,l=.kv (.str k) z r) (.inl rfl) (λY Y Y=>.inr (HM _ _ _ rfl)) q
theorem Co{l:V}{h:ay}{Z:List ag}{f:Int->Option aa}(q:o8 X h Z M l f):l=.nil∨∃k z r,l=.kv (.int k) z r:=H9 (Q:=λl=>l=.nil∨∃k z r,l=.kv (.int k) z r) (.inl rfl) (λY Y Y=>.inr (HM _ _ _ rfl)) q
structure Lk(X:Cx)(s:aj)(u:aa)(a:ag)(o:Option aa):Prop where
 sys:(a==sysModules)=false
 look:(∃k f,(strKind X.prog X.w).is k u=true/\s.heap.MapOf (strKind X.prog X.w) a f/\f k=o)∨(∃k f,(intKind X.prog X.w).is k u=true/\s.heap.MapOf (intKind X.prog X.w) a f/\f k=o)
theorem xZ(x:Str)(t:Tok):(strKind X.prog X.w).is x (.str x t)=true:=by show(x==x)=true;simp
theorem vB(x:Int)(t:Tok):(intKind X.prog X.w).is x (.int x t)=true:=by show Value.isInt x (.int x t)=true;simp[Value.isInt]
theorem DR.str{h:ay}{Z:List ag}{l:V}{a:ag}{y:Bool}{t:S}{r:RO}(d:DR X h Z M l a)(e:Hm y t l B=r)(n:RO.no≠r):∃f,h.MapOf (strKind X.prog X.w) a f/\BR X h Z M l f/\∀s u,f (mkStr s)=some u->xT l s:=by
 obtain⟨_,d|⟨f,m,d1,d2,d3⟩⟩:=d
 ·exact d
 ·rcases Co d1 with rfl|⟨k,z,r,rfl⟩
  ·exact absurd rfl d3
  ·exact absurd e n
theorem DR.int{h:ay}{Z:List ag}{l:V}{a:ag}{y:Bool}{t:Int}{r:RO}(d:DR X h Z M l a)(e:QX l (Hn y t l) B=r)(n:RO.no≠r):∃f,h.MapOf (intKind X.prog X.w) a f/\o8 X h Z M l f/\∀s u,f s=some u->pC l s:=by
 obtain⟨_,⟨f,m,d1,d2⟩|⟨f,m,d1,d2,d3⟩⟩:=d
 ·rcases vA d1 with rfl|⟨k,z,r,rfl⟩
  ·exact absurd e n
  ·exact absurd e n
 ·exact bS f m d1 d2
theorem x4{l:V}{g:Mm->RO}{r:RO}(n:RO.no≠r)(e:QX l g B=r):g B=r:=by
 rcases oKv l with⟨_,_,_,rfl⟩|h
 ·exact e
 ·exact absurd ((congrFun (h (Mm->RO) (λY=>RO.no) λY Y Y=>g) B).symm.trans e) n
theorem none_of{p:Prop}{o:Option aa}(h:∀u,o=some u->p)(n:¬p):o=none:=by
 induction o with
 |none=>rfl
 |some u=>exact absurd (h u rfl) n
theorem H'{l:V}:(∀z ao,inD v l B=.Hb z ao->Ok ao->Ok B/\ao.bk=B.bk/\∀s N M u a,Vr X N M s v u->DR X s.heap (N++foot M) M l a->∃o,Lk X s u a (some o)/\Vr X N M s z o)/\
  (∀ao,inD v l B=.Ha ao->Ok ao->Ok B/\ao.bk=B.bk/\∀s N M u a,Vr X N M s v u->DR X s.heap (N++foot M) M l a->Lk X s u a none):=by
 unfold inD;refine mOS (cu v) (λhs=>?_) (λt hs=>?_);rotate_left
 ·refine aD (RA (X:=X) (y:=VN v) (x:=t) l B) λRC RF=>?_;refine⟨λz ao e h=>(bL ((RC z ao e h).1) ((RC z ao e h).2.1) (λs N M u a q d=>?_)),λao e h=>(bL ((RF ao e h).1) ((RF ao e h).2.1) (λs N M u a q d=>?_))⟩
  ·refine bQ (d.str e nR) λf m d1 Y=>?_;exact((RC z ao e h).2.2 _ _ _ f d1).imp λo p=>⟨⟨d.1,(b8 hs q).elim λY e=>e▸ .inl (dy _ f (xZ _ _) m p.1)⟩,p.2⟩
  ·refine bQ (d.str e nN) λf m d1 d2=>?_;exact⟨d.1,(b8 hs q).elim λY e'=>e'▸ .inl (dy _ f (xZ _ _) m (none_of (d2 t) (RF ao e h).2.2))⟩
 ·refine mOI (cb v) (λhi=>?_) (λi hi=>?_)
  ·exact⟨nofun,nofun⟩
  ·refine aD (H7 (X:=X) (y:=Dz v) (x:=i) l B) λRC RF=>?_;refine⟨λz ao e h=>have e2:=x4 nR e;(bL ((RC z ao e2 h).1) ((RC z ao e2 h).2.1) (λs N M u a q d=>?_)),λao e h=>have e2:=x4 nN e;(bL ((RF ao e2 h).1) ((RF ao e2 h).2.1) (λs N M u a q d=>?_))⟩
   ·refine bQ (d.int e nR) λf m d1 Y=>?_;exact((RC z ao e2 h).2.2 _ _ _ f d1).imp λo p=>⟨⟨d.1,(b7 hi q).elim λY e=>e▸ .inr (dy _ f (vB _ _) m p.1)⟩,p.2⟩
   ·refine bQ (d.int e nN) λf m d1 d2=>?_;exact⟨d.1,(b7 hi q).elim λY e'=>e'▸ .inr (dy _ f (vB _ _) m (none_of (d2 i) (RF ao e2 h).2.2))⟩
theorem Lk.inT{a:ag}{o:Option aa}(l:Lk X s u a o):InT X A s u (.ref a) o.isSome:=by
 obtain⟨h0,⟨k,f,h1,h2,h3⟩|⟨k,f,h1,h2,h3⟩⟩:=l
 ·exact⟨λQ hq=>wpAny_in_of h1 h0 h2 (by refine ah h3 ?_;exact hq _),λQ hq=>wpAny_notIn_of h1 h0 h2 (by refine ah h3 ?_;exact hq _)⟩
 ·exact⟨λQ hq=>wpAny_in_of h1 h0 h2 (by refine ah h3 ?_;exact hq _),λQ hq=>wpAny_notIn_of h1 h0 h2 (by refine ah h3 ?_;exact hq _)⟩
theorem DZ{l:V}(hl:Mine.Internal.dictOf w B=.ok l):PU X v w B (hasB (inD v l B)):=λb ao e h=>by
 have k:=H' (X:=X) (v:=v) (B:=B) (l:=l)
 cases hr:inD v l B with
 |no=>rw[hr] at e;exact xl e
 |Hb z pM=>
  rw[hr] at e;injection e with g1 g2;subst g1;subst g2
  have k:=k.1 z _ hr h;exact bL k.1 k.2.1 (λA N M s u u' Y rd q q'=>(jL rd hl q').elim λa p=>p.1▸(k.2.2 s N M u a q p.2).elim λo p=>p.1.inT)
 |Ha pM=>
  rw[hr] at e;injection e with g1 g2;subst g1;subst g2
  have k:=k.2 _ hr h;exact bL k.1 k.2.1 (λA N M s u u' Y rd q q'=>(jL rd hl q').elim λa p=>p.1▸(k.2.2 s N M u a q p.2).inT)
theorem Xo{i:Nat}:PU X v (.loc i) B (inO v (bk B i) B):=λb ao e h=>jO nB e λq ho e=>by
 induction q with
 |list l=>exact Cn (w:=.loc i) (l:=l) (show dF (bk B i)=_ by refine ah ho ?_;rfl) b ao e h
 |du l=>exact Cn (w:=.loc i) (l:=l) (show dF (bk B i)=_ by refine ah ho ?_;rfl) b ao e h
 |dict l=>exact DZ (w:=.loc i) (l:=l) (show DB (bk B i)=_ by refine ah ho ?_;rfl) b ao e h
 |_=>exact xl e
theorem PW:PU X v w B (Wx v w B):=by
 induction w using V.casesOn with
 |om x y d=>exact Xk
 |str t=>exact PV (w:=.str t) rfl
 |ak t=>exact PV (w:=.ak t) rfl
 |wX l=>exact DZ (w:=.wX l) rfl
 |tup l=>exact Ry
 |lst l=>exact Cn (w:=.lst l) rfl
 |loc i=>exact Xo
 |_=>exactλb ao e=>xl e
theorem H_{h:ay}{Z:List ag}(q:VR X h Z M v u):(u==Value.none)=isN v:=by
 induction v using V.casesOn with
 |none=>subst q;rfl
 |bool b=>subst q;rfl
 |zZ b=>subst q;rfl
 |int i=>refine bc q λt vC=>?_;clear q;subst vC;rfl
 |sym i=>refine bc q λt Cp=>?_;clear q;subst Cp;rfl
 |rV i j=>refine bc q λt Cq=>?_;clear q;subst Cq;rfl
 |str i=>refine bc q λt vD=>?_;clear q;subst vD;rfl
 |ak i=>refine bc q λt Cr=>?_;clear q;subst Cr;rfl
 |tup l=>refine a6 q λa vs p7 Y=>?_;clear q;subst p7;rfl
 |lst l=>refine a6 q λa vs mM Y=>?_;clear q;subst mM;rfl
 |wX l=>refine aL q λa vE Y=>?_;clear q;subst vE;rfl
 |xf c l=>refine FT q λx d es n vG Y=>?_;clear q;subst vG;rfl
 |om a b c=>refine FT q λx Y Y Y RG Y=>?_;clear q;subst RG;rfl
 |loc i=>refine bQ q λp Y Y RH=>?_;clear q;subst RH;rfl
 |fn f=>subst q;rfl
 |cls f=>subst q;rfl
 |blt b=>
  subst q
  match b with
  |0=>rfl|1=>rfl|2=>rfl|3=>rfl|4=>rfl|5=>rfl|6=>rfl|_+7=>rfl
 |_=>exact eY q
noncomputable def PX:xg->CmpOp
 |.eq=>.Eq|.ne=>.NotEq|.lt=>.Lt|.le=>.LtE|.gt=>.Gt|.ge=>.GtE|.BO=>.In|.nin=>.NotIn|.is_=>.Is|.isn=>.IsNot
theorem x5(a b:Int):BZ a b=decide (a>b):=bj b a
theorem tq(a b:Int):LX a b=decide (a≥b):=eL b a
theorem x6{op:CmpOp}{r:Int->Int->Bool}(hr:∀i j t t'(s:aj)(A:aM)(Q:aa->aj->Prop),Q (.bool (r i j)) s->wpAny (model X.prog X.w) A (compareOp op (.int i t) (.int j t')) Q E0 s):Mx X (compareOp op) v w B (FI r v w B):=λb ao e h=>by
 unfold FI at e;refine cOI (cb v) (λhi=>?_) (λi hi=>?_)
 ·rw[hi] at e;exact xl e
 ·rw[hi] at e;have e:Hp r v w i B=.ok b ao:=e;unfold Hp at e;refine cOI (cb w) (λhj=>?_) (λj hj=>?_)
  ·rw[hj] at e;exact xl e
  ·rw[hj] at e;refine c_ (mL e h) λe1 o st=>?_;refine(bL o st (λA N M s u u' Q Y rd q q' hq=>?_));refine bc (b7 hi q) λt Cs=>?_;subst Cs;refine bc (b7 hj q') λt' RJ=>?_;subst RJ;exact hr i j t t' s A Q (by refine ah e1 ?_;exact hq s.toks)
theorem Xp:Mx X (compareOp .LtE) v w B (leV v w B):=λb ao e h=>by
 unfold leV at e;refine cOS (cu v) (λhs=>?_) (λa hs=>?_)
 ·rw[hs] at e;exact x6 (λi j t t' s A Q hq=>P.le_int (by rw[←eL];exact hq)) b ao e h
 ·rw[hs] at e;have e:leS a v w B=.ok b ao:=e;unfold leS at e;refine cOS (cu w) (λhj=>?_) (λc hj=>?_)
  ·rw[hj] at e;exact xl e
  ·rw[hj] at e;refine c_ (mL e h) λe1 o st=>?_;refine(bL o st (λA N M s u u' Q Y rd q q' hq=>?_));refine bc (b8 hs q) λt RK=>?_;subst RK;refine bc (b8 hj q') λt' RL=>?_;subst RL;refine P.le_str ?_
   have:(!decide ((mkStr c).cps.toList< (mkStr a).cps.toList))=b:=by rw[←e1,DY];rfl
   refine ah this ?_;exact hq s.toks
theorem Xq:Mx X (compareOp .In) v w B (Wx v w B):=λb ao e h=>by
 refine c_ (PW (X:=X) b ao e h) λo st g=>?_;exact bL o st (λA N M s u u' Q rl rd q q' hq=>(g A N M s u u' rl rd q q').yes Q hq)
theorem RN:Mx X (compareOp .NotIn) v w B (u1 (Wx v w B)):=λb ao e h=>by
 refine c_ (PW (X:=X) (!b) ao (tj e) h) λo st g=>?_;refine(bL o st (λA N M s u u' Q rl rd q q' hq=>(g A N M s u u' rl rd q q').no Q (λk=>?_)));rw[nC];exact hq k
theorem Xr:Mx X (compareOp .Is) v w B (isV v w B):=λb ao e h=>PH nB e λh1 e=>by
 injection e with g1 g2;subst g1;subst g2;exact⟨h,rfl,λA N M s u u' Q rl rd q q' hq=>by subst h1;subst q';exact is_none (by refine ah (H_ q) ?_;exact hq s.toks)⟩
theorem RP:Mx X (compareOp .IsNot) v w B (u1 (isV v w B)):=λb ao e h=>PH nB (tj e) λh1 e=>by
 injection e with e1 e2;exact⟨e2▸h,by rw[e2],λA N M s u u' Q rl rd q q' hq=>by subst h1;subst q';exact isNot_none (by rw[H_ q,e1,nC];exact hq s.toks)⟩
theorem g9{op:xg}:Mx X (compareOp (PX op)) v w B (fy op v w B):=by
 induction op with
 |eq=>exact Rv
 |ne=>exact Rw
 |lt=>exact x6 (λi j t t' s A Q hq=>P.lt_int (by rw[←bj];exact hq))
 |le=>exact Xp
 |gt=>exact x6 (λi j t t' s A Q hq=>P.gt_int (by rw[←x5];exact hq))
 |ge=>exact x6 (λi j t t' s A Q hq=>P.ge_int (by rw[←tq];exact hq))
 |BO=>exact Xq
 |nin=>exact RN
 |is_=>exact Xr
 |isn=>exact RP
end
end
section
open PySem.SeqAt
section
variable{X:Cx}{A:aM}{N:List ag}{M:List Lc}{s s':aj}{v w:V}{u u':aa}{B ao:Mm}{h h':ay}
theorem R0.out{I:List O}(r:R0 X I N M h){a:ag}(e:h.get? a=none):a∉N++foot M:=λm=>(bp.mp m).elim (λm=>(r.live a m).elim λo q=>nx e q) λm=>(r.o9 m).elim λo q=>nx e q
theorem fg:∀(l:List O)(o:O),mE l o=l++[o] :=by
 intro zr
 induction zr with
 |nil=>
  exact @λ_=>rfl
 |cons _ l bN=>
  exact @λo=>congrArg (cf _) (bN o)
theorem fQ{o:O}{x:V}(e:jg o B=.ok x ao):x=.loc (kB B.bk)/\ao.bk=mE B.bk o/\ao.nj=B.nj:=by
 obtain⟨a,b,c⟩:=B;injection e with g1 g2;subst g1;subst g2;exact bL rfl rfl rfl
theorem Pe.new{o:O}{x:V}{p:Lc}(r:Rd X N M s B)(e:jg o B=.ok x ao)(k:All s.heap s'.heap)(hp:p≠ .nul)(hf:∀a∈p.foot,s.heap.get? a=none)(hn:p.foot.Nodup)
  (q:OR X s'.heap (N++foot (M++[p])) (M++[p]) o p) (hg:s'.gens=s.gens:=by rfl) (ho:s'.os=s.os:=by rfl):Pe X N M s x ao (.ref p.at) s':=by
 refine c_ (fQ e) λIa e2 Y=>?_;subst Ia;refine⟨M++[p],Rk k hf hg ho,by refine ah e2 ?_;exact r.ext k hf hn q,?_⟩;refine(bS p ?_ hp rfl);refine ah r.bk.len ?_;simp
theorem fI{l:V}(e:bF l=true):aO l≤10000:=ez.mp e
theorem iH{l:V}{x:V}(e:iV l B=.ok x ao):bF l=true/\jg (.list l) B=.ok x ao:=jT nE e λh e=>⟨h,e⟩
theorem x7{l:V}{x:V}(e:z9 l B=.ok x ao):bF l=true/\x=.tup l/\ao=B:=jT nE e λh e=>by(injection e with g1 g2;subst g1;subst g2);exact bL h rfl rfl
theorem Pe.iV{l x:V}{us:Array aa}{a:ag}(r:Rd X N M s B)(e:iV l B=.ok x ao)(k:All s.heap s'.heap)(hf:s.heap.get? a=none)(hl:s'.heap.PlainList a us)(q:VL X s.heap (N++foot M) M l us.toList)
  (hg:s'.gens=s.gens:=by rfl) (ho:s'.os=s.os:=by rfl):Pe X N M s x ao (.ref a) s':=by
 have hf':∀b∈(Lc.one a).foot,s.heap.get? b=none:=λb hb=>by simp only[Lc.foot,aV] at hb;subst hb;exact hf
 exact Pe.new (p:=.one a) r (iH e).2 k (λh=>nomatch h) hf' (by simp[Lc.foot]) (dy a us rfl hl (q.mono (Ai k hf'))) hg ho
theorem Pe.z9{l x:V}{us:Array aa}{a:ag}(r:Rd X N M s B)(e:z9 l B=.ok x ao)(k:All s.heap s'.heap)(hf:s.heap.get? a=none)(hl:IsTup s'.heap a us)(q:VL X s.heap (N++foot M) M l us.toList)
  (hg:s'.gens=s.gens:=by rfl) (ho:s'.os=s.os:=by rfl):Pe X N M s x ao (.ref a) s':=by
 refine c_ (x7 e) λY kh l_=>?_;subst kh;subst l_;exact Pe.all r rfl k (mH a us rfl (r.out hf) hl (q.mono (All.hS k))) hg ho
theorem bG(h:ay):h.get? h.objs.size=none:=by
 refine kZ (h.get? h.objs.size) (λe=>?_) (λo e=>?_)
 ·rfl
 ·exact absurd (iE e) (jW _)
theorem dm:sizeLine=16777216:=by decide
theorem mN{Z:List ag}{l m:V}{us ws:List aa}(q:VL X h Z M l us)(q':VL X h Z M m ws):VL X h Z M (a_ l m) (us++ws):=by
 induction us generalizing l with
 |nil=>rcases q.shape with⟨rfl,_⟩|⟨a,t,x',Ak,rfl,e,q1,q2⟩;exact q';(injection e)
 |cons x xs ih=>
  rcases q.shape with⟨_,e⟩|⟨a,t,x',Ak,rfl,e,q1,q2⟩
  ·injection e
  ·injection e with g1 g2;subst g1;subst g2;exact dy x (xs++ws) rfl q1 (ih q2)
theorem D0{Z:List ag}{l m:V}{us ws:Array aa}(sm:bF (a_ l m)=true)(q:VL X h Z M l us.toList)(q':VL X h Z M m ws.toList):us.size+ws.size≤sizeLine:=by
 have:=fI sm;rw[(mN q q').len,dA,d6,d6] at this;refine ah dm ?_;exact bb this (by decide)
theorem RQ{l m:V}:zg X (binaryOp .Add) (.tup l) (.tup m) B (z9 (a_ l m) B):=λx ao e h=>by
 have p:=x7 e;refine⟨p.2.2▸h,λA N M s u u' Y rd q q'=>?_⟩;refine eQ λkk=>?_;refine iZ q λa us kg na i1 v1=>?_;clear q;subst kg;refine iZ q' λb ws ot nb i2 v2=>?_;clear q';subst ot;have hv:=mN v1 v2;have hlen:=D0 p.1 v1 v2;refine bQ (id i1) λvH ho fF vp=>?_;obtain⟨cls,dd,data,sl⟩:=vH;subst fF;obtain⟨n,rfl⟩:=vp;refine bQ (id i2) λXs x8 l_ DV=>?_;obtain⟨abn,Xu,data2,Xv⟩:=Xs;subst l_;obtain⟨n2,rfl⟩:=DV;refine kk ?_
 by_cases hv0:us.isEmpty=true
 ·refine qJ (aQ _ ho rfl) (aQ _ x8 rfl) uz uA PySem.F.slot_tuple_add PySem.F.entry_tuple_add (PySem.F.args_tuple_add_2 _ _) (tuple_addW0 a b us ws n n2 dd Xu sl Xv hv0) (bL ho x8 (Pe.same rd (ah p.2.2 rfl) (p.2.1▸(mH b ws rfl nb i2 ?_)) rfl));rw[ny.mp hv0] at hv;exact hv
 ·by_cases hw0:ws.isEmpty=true
  ·refine qJ (aQ _ ho rfl) (aQ _ x8 rfl) uz uA PySem.F.slot_tuple_add PySem.F.entry_tuple_add (PySem.F.args_tuple_add_2 _ _) (tuple_addW1 a b us ws n n2 dd Xu sl Xv hv0 hw0) (bL ho x8 (Pe.same rd (ah p.2.2 rfl) (p.2.1▸(mH a us rfl na i1 ?_)) rfl));rw[ny.mp hw0,cM] at hv;exact hv
  ·exact qJ (aQ _ ho rfl) (aQ _ x8 rfl) uz uA PySem.F.slot_tuple_add PySem.F.entry_tuple_add (PySem.F.args_tuple_add_2 _ _) (tuple_addW2 a b us ws n n2 dd Xu sl Xv hv0 hw0 hlen)
    (bL ho x8 (Pe.z9 (us:=us++ws) rd e (All.push _) (bG _) ⟨_,bX _ rfl,rfl,0,rfl⟩ (by refine ah qm ?_;exact hv)))
theorem RR{op:hV}{l:V}:zg X (binaryOp (BS op)) (.tup l) w B (Wy op l w B):=λx ao e h=>Rh nE e λm hm e=>by
 subst hm
 induction op with
 |add=>exact RQ x ao e h
 |_=>exact j9 e
theorem Ib{op:hV}:zg X (binaryOp (BS op)) v w B (Hr op (dY v B) w B):=λx ao e h=>jV nE e λl hl e=>by
 induction op with
 |add=>
  refine jV nE e λm hm e=>?_;have p:=iH e;refine⟨by show AllP B.nj;refine eV ((fQ p.2).2.2) ?_;exact h,λA N M s u u' Y rd q q'=>?_⟩;refine eQ λkk=>?_;refine bJ (dj rd hl q) λa us q_ i1 v1=>?_;subst q_;refine bJ (dj rd hm q') λb ws ra i2 v2=>?_;subst ra;refine bQ (id i1) λIc ho kg DW=>?_;obtain⟨cls,dd,data,sl⟩:=Ic;subst kg;obtain⟨n,rfl⟩:=DW;refine bQ (id i2) λvI x8 ot pL=>?_;obtain⟨abn,Xu,data2,Xv⟩:=vI;subst ot;obtain⟨n2,rfl⟩:=pL;refine kk ?_
  exact qJ (aQ _ ho rfl) (aQ _ x8 rfl) noFill_list_add seq_list_add PySem.F.slot_list_add PySem.F.entry_list_add (PySem.F.args_list_add_2 _ _) (list_addW a b us ws n n2 dd Xu sl Xv (D0 p.1 v1 v2))
   (bL ho x8 (Pe.iV (us:=us++ws) rd e (All.push _) (bG _) ⟨0,bX _ rfl⟩ (by refine ah qm ?_;exact mN v1 v2)))
 |_=>exact j9 e
theorem Ie{op:hV}:zg X (binaryOp (BS op)) v w B (rY op v w B):=by
 induction v using V.casesOn with
 |int i=>exact Ce rfl
 |sym i=>exact Ce rfl
 |rV x k=>exact Ce rfl
 |str t=>exact HU rfl
 |ak t=>exact HU rfl
 |tup l=>exact RR
 |lst l=>exact Ib (v:=.lst l)
 |loc i=>exact Ib (v:=.loc i)
 |_=>exactλx ao e=>j9 e
theorem RT{f:Int->Int}{x:V}(e:L6 f v B=.ok x ao):∃i,cb v=.ok i/\cb x=.ok (f i)/\ao=B:=by induction v using V.casesOn<;>first|exact j9 e|((injection e with g1 g2;subst g1;subst g2);exact(bS _ rfl rfl rfl))
theorem Ig{f:Int->Int}{g:aa->Sem aa}(hg:∀{A:aM}{i:Int}{t:Tok}{s:aj}{Q:aa->aj->Prop}{acW:aa->aj->Prop},(∀u tk,u=.int (f i) tk->∀k,Q u {s with toks:=k})->wpAny (model X.prog X.w) A (g (.int i t)) Q acW s):He X g v B (L6 f v B):=λx ao e h=>
 (RT e).elim λi p=>⟨p.2.2▸h,λA N M s u Y rd q=>(b7 p.1 q).elim λt hu=>hu▸hg λu tk hu k=>hu▸Pe.same rd (ah p.2.2 rfl) (ox p.2.1) rfl⟩
theorem PY:He X (unaryOp .USub) v B (L6 Int.neg v B):=Ig λhq=>P.neg_int (hq _ _ rfl _)
end
end
section
open PySem.SeqAt
section
variable{X:Cx}{A:aM}{N:List ag}{M:List Lc}{s s':aj}{v w:V}{u u':aa}{B ao:Mm}{h h':ay}
theorem rg{Z:List ag}{l:V}{us:List aa}{k:Nat}{x:V}(q:VL X h Z M l us)(e:eW l k=.ok x):∃u,us[k]? =some u/\VR X h Z M x u:=by
 induction us generalizing l k with
 |nil=>
  rcases q.shape with⟨rfl,_⟩|⟨a,t,x',Ak,rfl,e',q1,q2⟩
  ·exact Hd e
  ·injection e'
 |cons y ys ih=>
  rcases q.shape with⟨_,e'⟩|⟨a,t,x',Ak,rfl,e',q1,q2⟩
  ·injection e'
  ·injection e' with g1 g2;subst g1;subst g2
   induction k using dM with
   |zero=>(injection e with g1;subst g1);exact aQ _ rfl q1
   |succ k=>exact ih (k:=k) q2 e
theorem D1{Z:List ag}{l:V}{us:List aa}{k:Nat}{x:V}(q:VL X h Z M l us)(e:eW l k=.ok x):k<us.length:=(rg q e).elim λu p=>(cA.mp p.1).1
theorem xp{Z:List ag}{l:V}{us:List aa}{k:Nat}(q:VL X h Z M l us)(hk:k<us.length):∃x,eW l k=.ok x:=by
 induction us generalizing l k with
 |nil=>exact absurd hk (eA _)
 |cons y ys ih=>
  rcases q.shape with⟨_,e'⟩|⟨a,t,x',Ak,rfl,e',q1,q2⟩
  ·injection e'
  ·injection e' with g1 g2;subst g1;subst g2
   induction k using dM with
   |zero=>exact⟨a,rfl⟩
   |succ k=>exact ih (k:=k) q2 (jy hk)
def My(X:Cx)(v w:V)(B:Mm)(r:RE):Prop:=∀x ao,r=.ok x ao->Ok ao->Ok B/\∀A N M s u u',Rl A->Rd X N M s B->Vr X N M s v u->Vr X N M s w u'->
 (∃T id,s.TypeIs u T/\typeLookup (.type T) "__getitem__"=pure (some (.builtin id)))/\wpAny (model X.prog X.w) A (getItem u u') (Pe X N M s x ao) E0 s
theorem Ct{n k:Nat}{i:Int}(e:(if i<0 then i+(n:Int) else i)=k)(hk:k<n):seqIndex? i n=some k:=by
 unfold seqIndex?;dsimp only;refine ah e (ah (if_pos (by rw[decide_eq_true (b9 k),decide_eq_true (gR.mpr hk)];rfl)) ?_)
 rfl
theorem x9{n k:Nat}{i:Int}(e:VM n i=k)(hk:k<n):seqIndex? i n=some k:=by
 induction i with
 |ofNat m=>exact Ct ((if_neg (gS.mpr (b9 m))).trans (congrArg ab e)) hk
 |negSucc m=>
  have e:(@Bool.rec (λY=>Nat) n (n - (m+1)) (a9 m n))=k:=e;refine cBool (a9 m n) (λhb=>?_) (λhb=>?_)
  ·replace e:=hb▸e;exact absurd e (uj hk)
  ·replace e:=hb▸e;refine Ct ?_ hk;rw[if_pos (iM m),←e,lC,tV (cF.mp hb),Int.add_comm]
   rfl
theorem D2{j:Int}{n:Nat}(h0:0≤j)(hn:j.toNat<n):seqIndex? j n=some j.toNat:=Ct ((if_neg (gS.mpr h0)).trans (Int.toNat_of_nonneg h0).symm) hn
theorem oB{i:Int}(hl:low i=true): -2 ^ 63≤i/\i<2 ^ 63:=by
 have:=ti hl;omega
theorem Ih{o:OV}{x:V}{Q:Prop}(e:ze o B=.ok x ao)(k:o=.ok x->ao=B->Q):Q:=jV nE e λy h e=>by(injection e with g1 g2;subst g1;subst g2);exact k h rfl
theorem D3{l x:V}(e:FK l w B=.ok x ao):∃i,w=.int i/\low i=true/\eW l (VM (aO l) i)=.ok x/\ao=B:=Mn nE e λi hw e=>jT nE e λhl e=>Ih e λhn hm=>(vm i hw hl hn hm)
theorem oC{l:ag}{items:Array aa}{i:Int}{t:Tok}{x:aa}{k:Nat}{Q:aa->aj->Prop}(hl:s.heap.IsList l items)(hi: -2 ^ 63≤i/\i<2 ^ 63)(hs:seqIndex? i items.size=some k)(hx:items[k]? =some x)(hq:Q x s):
  wpAny (model X.prog X.w) A (getItem (.ref l) (.int i t)) Q E0 s:=by
 unfold seqIndex? at hs;dsimp only at hs
 by_cases h0:i<0
 all_goals
  first|replace hs:=(if_pos h0)▸hs|replace hs:=(if_neg h0)▸hs
  split at hs<;>cases hs
  rename_i hc;rw[cK,decide_eq_true_eq] at hc
 ·exact wpAny_getItem_list_neg hl h0 (by omega) hi.1 hx hq
 ·exact wpAny_getItem_list hl hc.1 hi.2 hx hq
theorem RU{l:V}:My X (.tup l) w B (FK l w B):=λx ao e h=>by
 refine eQ λkk=>?_;refine WQ (D3 e) λi i7 hl hn oD=>?_;subst i7;subst oD;refine kk ?_;refine⟨h,λA N M s u u' Y rd q q'=>?_⟩;refine iZ q λa us fF na i1 v1=>?_;clear q;subst fF;refine bc q' λt kh=>?_;clear q';subst kh;refine aL (rg v1 hn) λy e1 e2=>?_;rw[v1.len] at hn e1;exact⟨(bA ("tuple") _ i1.typeIs F.slot_tuple_getitem.lookup),getItem_tuple i1 (oB hl).1 (oB hl).2 (x9 rfl (D1 v1 hn)) (tP.symm.trans e1) (Pe.same rd rfl e2 rfl)⟩
theorem Mz{l:V}(hv:dY v B=.ok l):My X v w B (FK l w B):=λx ao e h=>by
 refine WQ (D3 e) λi vJ hl hn H5=>?_;subst vJ;subst H5;refine⟨h,λA N M s u u' Y rd q q'=>?_⟩;refine bJ (dj rd hv q) λa us ou i1 v1=>?_;subst ou;refine bc q' λt Ar=>?_;clear q';subst Ar;refine aL (rg v1 hn) λy e1 e2=>?_;rw[v1.len] at hn e1;exact⟨(bA ("list") _ i1.typeIs uJ.lookup),oC i1 (oB hl) (x9 rfl (D1 v1 hn)) (tP.symm.trans e1) (Pe.same rd rfl e2 rfl)⟩
theorem D4{l:V}{j:Int}(e:BQ l j=true):low j=true/\0≤j/\j.toNat<aO l:=by
 have b:=cx (cx e).2;rw[eL,bj,decide_eq_true_iff,decide_eq_true_iff] at b;exact bL ((cx e).1) b.1 ((tW b.1).mpr b.2)
theorem D5{l:V}(hv':dY v B=.ok l):My X v w B (DD l w B):=λx ao e h=>jI nE e λj hj e=>by
 injection e with g1 g2;subst g1;subst g2;have p:=fb h;have b:=D4 p.1;refine⟨p.2,λA N M s u u' Y rd q q'=>?_⟩;refine bJ (dj rd hv' q) λa us ra i1 v1=>?_;subst ra;refine bc (b7 hj q') λt Ii=>?_;subst Ii;replace b:=v1.len▸b;refine bc (xp v1 b.2.2) λz hz=>?_;refine aL (rg v1 hz) λy e1 e2=>?_;refine⟨(bA ("list") _ i1.typeIs uJ.lookup),oC i1 (oB b.1) (D2 b.2.1 b.2.2) (tP.symm.trans e1) (Pe.same rd (gv _ _) ?_ rfl)⟩;refine ah (show sZ l j.toNat=z by unfold sZ;rw[hz]) ?_;exact e2
theorem D6{l:V}(hv:dY v B=.ok l):My X v w B (DE l w B):=by
 rcases HO w with⟨i,rfl⟩|h
 ·exact Mz hv
 ·exact(show DE l w B=DD l w B from h RE _ λY=>FK l w B)▸D5 hv
theorem MA{r:RO}{x:V}(e:L1 r=.ok x ao):r=.Hb x ao:=by induction r<;>first|exact j9 e|((injection e with g1 g2;subst g1;subst g2);rfl)
theorem Ij{l:V}(hv:Mine.Internal.dictOf v B=.ok l):My X v w B (L1 (inD w l B)):=λx ao e h=>by
 refine c_ ((H' (X:=X)).1 x ao (MA e) h) λo st g=>?_;refine⟨o,λA N M s u u' Y rd q q'=>?_⟩;refine aL (jL rd hv q) λa Cq d=>?_;subst Cq;refine aL (g s N M u' a q' d) λo' RV e2=>?_;obtain⟨d0,lk⟩:=RV
 rcases lk with⟨k,f,h1,h2,h3⟩|⟨k,f,h1,h2,h3⟩
 ·exact⟨(bA ("dict") _ h2.typeIs F.slot_dict_getitem.lookup),wpAny_getItem_of h1 h2 h3 (Pe.same rd st e2 rfl)⟩
 ·exact⟨(bA ("dict") _ h2.typeIs F.slot_dict_getitem.lookup),wpAny_getItem_of h1 h2 h3 (Pe.same rd st e2 rfl)⟩
theorem fh:∀(l:S)(n:Nat),mB l n=match l[n]? with|some c=>[c] |none=>[]
 | [],n=>rfl
 |a::r,0=>rfl
 |a::r,n+1=>by
  show mB r n=_;refine ah (fh r n) ?_;simp
theorem pN{t:S}{i:Int}{k c:Nat}{tk tk':Tok}{Q:aa->aj->Prop}(hi: -2 ^ 63≤i/\i<2 ^ 63)(hs:seqIndex? i t.length=some k)(hc:t[k]? =some c)(hq:Q (.str (mkStr [c]) s.toks) {s with toks:=s.toks+1}):
  wpAny (model X.prog X.w) A (getItem (.str (mkStr t) tk) (.int i tk')) Q E0 s:=by
 refine P.getItem_str ?_ ?_ hq
 ·simp only[Bool.or_eq_false_iff,decide_eq_false_iff_not];omega
 ·rw[eg,hs];show t.toArray[k]? =some c
  simpa using hc
theorem MB{t:S}{j:Int}(hv:cu v=.ok t)(hw:cb w=.ok j):My X v w B (DC t j B):=λx ao e h=>by
 injection e with g1 g2;subst g1;subst g2;have p:=fb h;have b:=cx (cx p.1).2;rw[eL,bj,decide_eq_true_iff,decide_eq_true_iff,eu] at b;have hW:j.toNat<t.length:=(tW b.1).mpr b.2
 exact⟨p.2,λA N M s u u' Y rd q q'=>(b8 hv q).elim λt1 e1=>(b7 hw q').elim λt2 e2=>e1▸e2▸⟨(bA ("str") _ (jZ s _ _) uK.lookup),pN (c:=t[j.toNat]) (oB (cx p.1).1) (D2 b.1 hW) (eZ hW) (Pe.same rd (gv _ _) (mK (by
  show OS.ok (mB t j.toNat)=OS.ok [t[j.toNat]];rw[fh,eZ hW])) rfl)⟩⟩
theorem Ik{y:Bool}{c:List Nat}{x:V}(e:Hc y c=.ok x):∃a r,c=a::r/\x=DA y [a] :=by
 induction c using bE with
 |nil=>exact Hd e
 |cons a r=>(injection e with g1;subst g1);exact bA a r rfl rfl
theorem xq(y:Bool)(t:S):cu (DA y t)=.ok t:=by induction y<;>rfl
theorem MC(y:Bool)(t:S)(w:V)(B:Mm):(∃i,w=.int i)∨(∃j,cb w=.ok j/\Hs y t w B=DC t j B)∨Hs y t w B=.no:=by
 induction w using V.casesOn<;>first|exact .inr (.inr rfl)|exact .inl ⟨_,rfl⟩|exact .inr (.inl (aQ _ rfl rfl))
theorem Il{y:Bool}{t:S}(hv:cu v=.ok t):My X v w B (Hs y t w B):=λx ao e h=>by
 rcases MC y t w B with⟨i,rfl⟩|⟨j,hj,hr⟩|hr
 ·refine jT nE (show @Bool.rec (λY=>RE) RE.no (ze (Hc y (mB t (VM (j5 t) i))) B) (low i)=_ from e) λhl e=>Ih e λhn hm=>?_;subst hm;refine a6 (Ik hn) λa r hc RW=>?_;subst RW;rw[fh,eu] at hc;refine kY (t[VM t.length i]?) (λhg=>?_) (λc hg=>?_)
  ·replace hc:=hg▸hc;(injection hc)
  ·replace hc:=hg▸hc;injection hc with g1 g2;subst g1;subst g2
   exact⟨h,λA N M s u u' Y rd q q'=>(b8 hv q).elim λt1 e1=>q'.elim λt2 e2=>e1▸e2▸⟨(bA ("str") _ (jZ s _ _) uK.lookup),pN (oB hl) (x9 rfl (cA.mp hg).1) hg (Pe.same rd rfl (mK (xq _ _)) rfl)⟩⟩
 ·exact MB hv hj x ao (hr▸e) h
 ·exact j9 (hr.symm.trans e)
theorem Im:My X v w B (qX v w B):=by
 induction v using V.casesOn with
 |str t=>exact Il rfl
 |ak t=>exact Il rfl
 |tup l=>exact RU
 |lst l=>exact D6 (v:=.lst l) rfl
 |wX l=>exact Ij (v:=.wX l) rfl
 |loc k=>
  show My X (.loc k) w B (Ht (bk B k) w B);refine mOO (bk B k) (λho=>?_) (λo ho=>?_)
  ·exactλx ao e=>j9 e
  ·induction o with
   |list l=>exact D6 (v:=.loc k) (l:=l) (show dF (bk B k)=_ by refine ah ho ?_;rfl)
   |du l=>exact D5 (v:=.loc k) (l:=l) (show dF (bk B k)=_ by refine ah ho ?_;rfl)
   |dict l=>exact Ij (v:=.loc k) (l:=l) (show DB (bk B k)=_ by refine ah ho ?_;rfl)
   |_=>exactλx ao e=>j9 e
 |_=>exactλx ao e=>j9 e
end
end
set_option backward.match.sparseCases false
section
open PySem.SeqAt
section
variable{X:Cx}{A:aM}{N:List ag}{M:List Lc}{s s':aj}{v w:V}{u u':aa}{B ao:Mm}{h h':ay}
theorem o_:∀(n:Nat)(l:S),oq n l=l.take n
 |0,l=>by refine ah jQ ?_;rfl
 |n+1,[] =>rfl
 |n+1,a::l=>by
  show a::oq n l=_;refine ah (o_ n l) ?_;rfl
theorem pa:∀(n:Nat)(l:S),z6 n l=l.drop n
 |0,_=>rfl
 |n+1,[] =>rfl
 |n+1,a::l=>by
  show z6 n l=_;refine ah (pa n l) ?_;rfl
noncomputable def w5(b:Bd)(n d:Nat):Nat:=match b with|.no=>d|.at i=>at_ n i|.sy i=>i.toNat
noncomputable def Cu(b:Bd):Option Int:=match b with|.no=>none|.at i=>some i|.sy i=>some i
noncomputable def MD(b:Bd)(u:aa):Prop:=match b with|.no=>u=.none|.at i=>∃t,u=.int i t|.sy i=>∃t,u=.int i t
theorem ME(l:S)(b:Bd):hiS l b=l.take (w5 b l.length l.length):=by
 induction b with
 |no=>simp[hiS,w5]
 | «at» i=>show oq (at_ (j5 l) i) l=_;rw[o_,eu];rfl
 |sy i=>exact o_ _ _
theorem MF(n:Nat)(l:S)(b:Bd):loS n l b=l.drop (w5 b n 0):=by
 induction b with
 |no=>rfl
 | «at» i=>exact pa _ _
 |sy i=>exact pa _ _
theorem As(l:S)(lo hi:Bd):Hu l lo hi=(l.take (w5 hi l.length l.length)).drop (w5 lo l.length 0):=by
 show loS (j5 l) (hiS l hi) lo=_;rw[eu,MF,ME]
theorem D7{b:Bd}(e:Ok (L3 b B)):Ok B/\∀i,b=.sy i->0≤i:=by
 induction b with
 |no=>exact⟨e,λi h=>nomatch h⟩
 | «at» i=>exact⟨e,λi h=>nomatch h⟩
 |sy i=>
  refine aD (fb (p:=mY 0 i) e) λa b=>?_;rw[eL,decide_eq_true_iff] at a;exact⟨b,λj h=>by(injection h with g1;subst g1);exact a⟩
theorem Au(b:Bd):(L3 b B).bk=B.bk:=by
 induction b with
 |no=>rfl
 | «at» i=>rfl
 |sy i=>exact gv _ _
theorem Io(k n:Nat):max 0 (min (k:Int) n)=((min k n:Nat):Int):=by
 rcases Nat.le_total k n with h|h
 ·exact ah (qE h) (ah (Int.min_eq_left (gT.mpr h)) (ah (Int.max_eq_right (b9 _)) rfl))
 ·exact ah (Nat.min_eq_right h) (ah (Int.min_eq_right (gT.mpr h)) (ah (Int.max_eq_right (b9 _)) rfl))
theorem RX(k n:Nat):max 0 (min (d7 k+n) (n:Int))=((min (n - (k+1)) n:Nat):Int):=by
 rw[qE (Nat.sub_le _ _),Int.min_eq_left (by lia),Int.max_comm,←Int.ofNat_toNat,show d7 k+(n:Int)=(n:Int) - ((k+1:Nat):Int) by rw[lC,Int.add_comm];rfl,Int.toNat_sub]
theorem rh{b:Bd}{n d:Nat}{i:Int}(hb:Cu b=some i)(hs:∀i,b=.sy i->0≤i):max 0 (min (if i<0 then i+(n:Int) else i) (n:Int))=((min (w5 b n d) n:Nat):Int):=by
 induction b with
 |no=>(injection hb)
 | «at» j=>
  refine abj hb ?_
  induction i with
  |ofNat k=>refine ah (if_neg (show¬ab k<0 from gS.mpr (b9 k))) ?_;exact Io k n
  |negSucc k=>refine ah (if_pos (iM k)) ?_;exact RX k n
 |sy j=>
  cases hb
  refine bc (fX (hs i rfl)) λk mf=>?_;subst mf;refine ah (if_neg (gS.mpr (b9 k))) ?_;exact Io k n
theorem r9{H:Type}(xs:Array H)(a b:Nat):(sliceRange a b 1).filterMap (xs[·]?)=(xs.toList.take b).drop a:=by
 rw[sliceRange_one,pick_run,qq]
theorem RY{lo hi:Bd}{n:Nat}(h1:∀i,lo=.sy i->0≤i)(h2:∀i,hi=.sy i->0≤i):
  zR (Cu lo) (Cu hi) 1 n=sliceRange ((min (w5 lo n 0) n:Nat):Int) ((min (w5 hi n n) n:Nat):Int) 1:=by
 unfold zR;dsimp only
 congr 1
 ·refine kZ (Cu lo) (λhb=>?_) (λi hb=>?_)
  ·induction lo with
   |no=>simp[w5]
   | «at» i=>(injection hb)
   |sy i=>(injection hb)
  ·exact rh hb h1
 ·refine kZ (Cu hi) (λhb=>?_) (λi hb=>?_)
  ·induction hi with
   |no=>simp[w5]
   | «at» i=>(injection hb)
   |sy i=>(injection hb)
  ·exact rh hb h2
theorem RZ{lo hi:Bd}{n:Nat}(h1:∀i,lo=.sy i->0≤i)(h2:∀i,hi=.sy i->0≤i):
  sliceBounds (Cu lo) (Cu hi) none n=(((min (w5 lo n 0) n:Nat):Int),((min (w5 hi n n) n:Nat):Int),1):=by
 unfold sliceBounds;dsimp only
 congr 1
 ·refine kZ (Cu lo) (λhb=>?_) (λi hb=>?_)
  ·induction lo with
   |no=>simp[w5]
   | «at» i=>(injection hb)
   |sy i=>(injection hb)
  ·exact rh hb h1
 ·congr 1
  refine kZ (Cu hi) (λhb=>?_) (λi hb=>?_)
  ·induction hi with
   |no=>simp[w5]
   | «at» i=>(injection hb)
   |sy i=>(injection hb)
  ·exact rh hb h2
theorem D8{H:Type}(l:List H)(a b:Nat):(l.take (min b l.length)).drop (min a l.length)=(l.take b).drop a:=by
 have h1:l.take (min b l.length)=l.take b:=eV List.take_take (ah lE rfl);refine ah h1 ?_
 rcases Nat.le_total a l.length with h|h
 ·exact ah (qE h) rfl
 ·exact ah (Nat.min_eq_right h) (ah (nQ (zp ..)) (ah (nQ (bb (zp ..) h)) rfl))
theorem R1{a b n:Nat}(h:min b n - min a n=n):min (min b n) n - min a n=n:=by rw[Nat.min_assoc,Nat.min_self];exact h
noncomputable def Sl(X:Cx)(lo hi:Bd)(v:V)(B:Mm)(r:RE):Prop:=∀x ao,r=.ok x ao->Ok ao->Ok B/\∀A N M s u vl vh a,Rl A->Rd X N M s B->Vr X N M s v u->MD lo vl->MD hi vh->s.heap.get? a=some {cls:=.type "slice",data:=.fields #[vl,vh,.none] }->
 (∃T id,s.TypeIs u T/\typeLookup (.type T) "__getitem__"=pure (some (.builtin id)))/\wpAny (model X.prog X.w) A (getItem u (.ref a)) (Pe X N M s x ao) E0 s
noncomputable def MG(b:Bd)(u:aa):Option (Int×Tok):=match Cu b with|none=>none|some i=>some (i,match u with|.int _ t=>t|_=>0)
theorem D9(b:Bd)(u:aa):(MG b u).map (·.1)=Cu b:=by unfold MG;cases Cu b<;>rfl
theorem Av{b:Bd}(q:MD b u):partValue (MG b u)=u:=by
 induction b with
 |no=>exact q.symm
 | «at» i=>refine bc q λt kh=>?_;clear q;subst kh;rfl
 |sy i=>refine bc q λt i5=>?_;clear q;subst i5;rfl
theorem xt{b:Bd}(q:MD b u):IsPart u (Cu b):=by
 induction b with
 |no=>subst q;exact .none
 | «at» i=>refine bc q λt vJ=>?_;clear q;subst vJ;exact .int _ _
 |sy i=>refine bc q λt vK=>?_;clear q;subst vK;exact .int _ _
theorem PZ{y:Bool}{t:S}{lo hi:Bd}(hv:cu v=.ok t):Sl X lo hi v B (slS y t lo hi B):=λx ao e h=>by
 refine mG (Cf e h) λh hlen R2 hx=>?_;have h1:=D7 h;have h2:=D7 h1.1;refine⟨h2.1,λA N M s u vl vh a Y rd q q1 q2 ha=>(b8 hv q).elim λtk e=>e▸⟨(bA ("str") _ (jZ s _ _) uK.lookup),wpAny_getItem_str_slice (l:=MG lo vl) (u:=MG hi vh) (st:=none) ⟨_,ha,rfl,by refine ah (Av q1) (ah (Av q2) ?_);rfl⟩ rfl ?_⟩⟩;rw[Au,Au] at R2
 have hp:slicePicked (mkStr t) (MG lo vl) (MG hi vh) none=sliceRange ((min (w5 lo t.length 0) t.length:Nat):Int) ((min (w5 hi t.length t.length) t.length:Nat):Int) 1:=by
  unfold slicePicked;rw[D9,D9,eg];exact RY h1.2 h2.2
 have hf:(slicePicked (mkStr t) (MG lo vl) (MG hi vh) none).filterMap ((mkStr t).cps[·]?)=Hu t lo hi:=by
  rw[hp,r9,As];exact D8 t _ _
 unfold sliceMade;refine ah hf ?_
 split
 ·rename_i hc;rw[cK,beq_iff_eq,beq_iff_eq,eg,hp,sliceRange_one,bx,nU] at hc
  have key:Hu t lo hi=t:=by
   have h4:(Hu t lo hi).Sublist t:=by rw[As];exact(List.drop_sublist _ _).trans (List.take_sublist _ _)
   refine h4.eq_of_length ?_;rw[←hf,hp,r9];show((t.take _).drop _).length=_;rw[lF,gp];exact R1 hc.2
  exact Pe.same rd R2 (mK (key▸hx)) rfl
 ·exact⟨by show(mkStr _).length≤_;rw[eg,dm];exact bb hlen (by decide),Pe.same rd R2 (mK hx) rfl⟩
theorem Aw{Z:List ag}:∀{n:Nat}{l:V}{us:List aa},VL X h Z M l us->VL X h Z M (pH n l) (us.take n)
 |0,l,us,q=>by simp only[jQ];rfl
 |n+1,l,us,q=>by
  rcases q.shape with⟨rfl,rfl⟩|⟨a,t,x',Ak,rfl,rfl,q1,q2⟩
  ·rfl
  ·exact dy x' (Ak.take n) rfl q1 (Aw q2)
theorem Ax{Z:List ag}:∀{n:Nat}{l:V}{us:List aa},VL X h Z M l us->VL X h Z M (Pt n l) (us.drop n)
 |0,l,us,q=>q
 |n+1,l,us,q=>by
  rcases q.shape with⟨rfl,rfl⟩|⟨a,t,x',Ak,rfl,rfl,q1,q2⟩
  ·rfl
  ·exact Ax (n:=n) q2
theorem R3{Z:List ag}{l:V}{us:List aa}{b:Bd}(hb:QY b=true)(q:VL X h Z M l us):VL X h Z M (hiV l b) (us.take (w5 b us.length us.length)):=by
 induction b with
 |no=>show VL X h Z M l _;simp only[w5,lE];exact q
 | «at» i=>show VL X h Z M (pH (at_ (aO l) i) l) _;refine ah q.len ?_;exact Aw q
 |sy i=>exact absurd hb nT
theorem R4{Z:List ag}{l:V}{us:List aa}{b:Bd}{n:Nat}(hb:QY b=true)(q:VL X h Z M l us):VL X h Z M (loV n l b) (us.drop (w5 b n 0)):=by
 induction b with
 |no=>exact q
 | «at» i=>exact Ax q
 |sy i=>exact absurd hb nT
theorem Ip{lo hi:Bd}(us:Array aa)(h1:∀i,lo=.sy i->0≤i)(h2:∀i,hi=.sy i->0≤i):(slicePick us (Cu lo) (Cu hi) none).toList=(us.toList.take (w5 hi us.size us.size)).drop (w5 lo us.size 0):=by
 unfold slicePick;refine ah (RZ h1 h2) ?_;simp only[r9]
 have:us.size=us.toList.length:=by simp
 rw[this,D8]
theorem Xw{b:Bd}(hb:QY b=true):∀i,b=.sy i->0≤i:=λi e=>by subst e;exact absurd hb nT
theorem D'{l l' x:V}{vl vh vs:aa}{bl bh bs:Option Int}(hl:dY v B=.ok l)(sm:bF l=true)(e:iV l' B=.ok x ao)(h:Ok ao)(h3:IsPart vl bl)(h4:IsPart vh bh)(h5:IsPart vs bs)(h0:bs≠some 0)
  (hq:∀{h:ay}{Z:List ag}{M:List Lc}{us:Array aa},VL X h Z M l us.toList->VL X h Z M l' (slicePick us bl bh bs).toList):Ok B/\∀A N M s u a,Rd X N M s B->Vr X N M s v u->s.heap.get? a=some {cls:=.type "slice",data:=.fields #[vl,vh,vs] }->
  (∃T id,s.TypeIs u T/\typeLookup (.type T) "__getitem__"=pure (some (.builtin id)))/\wpAny (model X.prog X.w) A (getItem u (.ref a)) (Pe X N M s x ao) E0 s:=by
 refine⟨by show AllP B.nj;refine eV ((fQ (iH e).2).2.2) ?_;exact h,λA N M s u a rd q ha=>?_⟩;refine bJ (dj rd hl q) λb us q_ i1 v1=>?_;subst q_;have hsz:=fI sm;rw[v1.len,d6] at hsz;exact⟨(bA ("list") _ i1.typeIs uJ.lookup),wpAny_getItem_list_slice i1 (bS _ ha rfl rfl) h3 h4 h5 h0 (Pe.iV rd e (All.push _) (bG _) ⟨0,bX _ rfl⟩ (hq v1)) (by refine ah dm ?_;exact bb (by assumption) (bW _ _))⟩
theorem P5{lo hi:Bd}:Sl X lo hi v B (slL (dY v B) lo hi B):=λx ao e h=>jV nE e λl hl e=>jT nE e λhc e=>
 have c:=cx (cx hc).1
 have k:=λ{vl vh:aa} (q1:MD lo vl) (q2:MD hi vh)=>D' (X:=X) hl (cx hc).2 e h (xt q1) (xt q2) .none nofun λ{h Z M us} v1=>by
  refine ah (Ip us (Xw c.1) (Xw c.2)) ?_;have q3:=R4 (n:=us.size) c.1 (R3 c.2 v1);rw[d6] at q3;show VL X h Z M (loV (aO l) (hiV l hi) lo) _;refine ah v1.len (ah d6 ?_);exact q3
 ⟨by show AllP B.nj;refine eV ((fQ (iH e).2).2.2) ?_;exact h,λA N M s u vl vh a Y rd q q1 q2 ha=>(k q1 q2).2 A N M s u a rd q ha⟩
theorem MI{Z:List ag}{l m:V}{us ws:List aa}(q:VL X h Z M l us)(q':VL X h Z M m ws):VL X h Z M (fk l m) (us.reverse++ws):=by
 induction us generalizing l m ws with
 |nil=>rcases q.shape with⟨rfl,_⟩|⟨a,t,x',Ak,rfl,e,q1,q2⟩;exact q';(injection e)
 |cons x xs ih=>
  rcases q.shape with⟨_,e⟩|⟨a,t,x',Ak,rfl,e,q1,q2⟩
  ·injection e
  ·injection e with g1 g2;subst g1;subst g2;rw[iz,bH];exact ih (m:=.cons a m) (ws:=x::ws) q2 (dy x ws rfl q1 q')
theorem Iq(us:Array aa):(slicePick us none none (some (-1))).toList=us.toList.reverse:=by
 rw[krv_pick]
theorem Xx(hl:dY v B=dY v B):∀x ao,Px v B=.ok x ao->Ok ao->Ok B/\∀A N M s u t a,Rl A->Rd X N M s B->Vr X N M s v u->s.heap.get? a=some {cls:=.type "slice",data:=.fields #[.none,.none,.int (-1) t] }->
  (∃T id,s.TypeIs u T/\typeLookup (.type T) "__getitem__"=pure (some (.builtin id)))/\wpAny (model X.prog X.w) A (getItem u (.ref a)) (Pe X N M s x ao) E0 s:=λx ao e h=>jV nE e λl hl e=>jT nE e λc3 e=>
 have k:=λt=>D' (X:=X) hl c3 e h .none .none (.int (-1) t) nofun λ{h Z M us} v1=>by
  have:=MI v1 (show VL X h Z M .nil [] from rfl);rw[cM] at this;rw[Iq];exact this
 ⟨(k 0).1,λA N M s u t a Y rd q ha=>(k t).2 A N M s u a rd q ha⟩
theorem Ay{lo hi:Bd}:Sl X lo hi v B (LK lo hi v B):=by
 induction v using V.casesOn with
 |str t=>exact PZ rfl
 |ak t=>exact PZ rfl
 |lst l=>exact P5 (v:=.lst l)
 |loc i=>exact P5 (v:=.loc i)
 |_=>exactλx ao e=>j9 e
end
end
set_option backward.match.sparseCases true
section
open PySem.SeqAt
section
theorem m5{d:Nat}(h:d<10):(Nat.digitChar d).toNat=48+d:=(by decide:∀d,d<10->(Nat.digitChar d).toNat=48+d) d h
theorem F1:∀(f n:Nat)(ds:List Char),n<10 ^ f->(Nat.toDigitsCore 10 f n ds).map lz=iW f n (ds.map lz):=by
 intro zr
 induction zr with
 |zero=>
  exact @λn ds _=>rfl
 |succ f bN=>
  exact @λn ds h=>by
   show _=(@Bool.rec (λY=>S) (iW f (n / 10) ((48+n % 10)::ds.map lz)) ((48+n)::ds.map lz) (a9 n 10));unfold Nat.toDigitsCore;simp only;refine cW (a9 n 10) (λhb=>?_) (λhb=>?_);rotate_left
   ·have hb:=cF.mp hb;refine ah (if_pos (by omega)) (ah dB (ah (m5 (Nat.mod_lt _ (by decide))) ?_))
    congr 2
    omega
   ·have hb:¬n<10:=λh=>by rw[cF.mpr h] at hb;exact absurd hb nF
    exact ah (if_neg (by omega)) (ah (bN (n / 10) _ (by rw[um] at h;omega)) (ah dB (ah (m5 (Nat.mod_lt _ (by decide))) rfl)))
theorem Cv(n:Nat):n<10 ^ (n+1):=by
 induction n with
 |zero=>decide
 |succ n ih=>rw[um];omega
theorem Az(n:Nat):(Nat.repr n).toList.map lz=iW (n+1) n [] :=by
 have:=F1 (n+1) n [] (Cv n);rw[nW] at this;refine eV this ?_;simp[Nat.repr,Nat.toDigits]
theorem Ir(i:Int):Str.ofString (toString i)=mkStr (fS i):=by
 rw[Str.ofString_eq_toList];unfold mkStr
 congr 1
 congr 1
 induction i with
 |ofNat n=>exact Az n
 |negSucc n=>
  show(("-"++Nat.repr (n+1)).toList).map lz=45::iW (n+2) (n+1) [];refine eV (Az (n+1)) ?_;simp
end
section
variable{X:Cx}{A:aM}{N:List ag}{M:List Lc}{s s':aj}{v w:V}{u u':aa}{B ao:Mm}{h h':ay}
structure mO(X:Cx):Prop where
 Xy:X.base.NoDigits
 Xz:X.base.NoLimit
 F2:X.K.In X.base
def Bl(X:Cx)(f:aa)(l:V)(B:Mm)(r:RE):Prop:=∀x ao,r=.ok x ao->Ok ao->Ok B/\∀A N M s us,Rl A->Rd X N M s B->Vl X N M s l us->wpAny (model X.prog X.w) A (call f us) (Pe X N M s x ao) E0 s
theorem x_{f:V->Mm->RE}{l x:V}{Q:Prop}(e:j6 f l B=.ok x ao)(k:∀v,l=.cons v .nil->f v B=.ok x ao->Q):Q:=lW nE e λv r hl e=>vn nE e λhr e=>k v (hr▸hl) e
theorem D_{f:V->Mm->RE}{l x:V}(e:j6 f l B=.ok x ao):∃v,l=.cons v .nil/\f v B=.ok x ao:=x_ e λv h e=>(aQ v h e)
theorem R5{Z:List ag}{a:V}{us:List aa}{Q:Prop}(q:VL X h Z M (.cons a .nil) us)(k:∀u,us=[u] ->VR X h Z M a u->Q):Q:=by
 refine bJ q λu xs gY q1 oD=>?_;clear q;subst gY;subst oD;exact k u rfl q1
theorem pb{f:V->Mm->RE}{g:aa}(hf:∀v,He X (λu=>call g [u]) v B (f v B)){l:V}:Bl X g l B (j6 f l B):=λx ao e h=>x_ e λv hl e=>by
 subst hl;refine aD (hf v x ao e h) λRr Rt=>?_;exact⟨Rr,λA N M s us rl rd q=>R5 q λu hu q=>hu▸Rt A N M s u rl rd q⟩
theorem ya{l z x:V}(e:L4 l z B=.ok x ao):bF l=true/\x=z/\ao=B:=jT nE e λh e=>by(injection e with g1 g2;subst g1;subst g2);exact bL h rfl rfl
theorem MJ{y:Bool}{t:S}{x:V}(e:L5 y t B=.ok x ao)(h:Ok ao):Ok B/\t.length≤1000000/\cb x=.ok (ab t.length)/\ao.bk=B.bk:=by
 rw[←eu]
 induction y with
 |true=>exact jT nE e λhs e=>by(injection e with g1 g2;subst g1;subst g2);exact⟨h,by rw[eu];exact ie hs,rfl,rfl⟩
 |false=>(injection e with g1 g2;subst g1;subst g2);exact⟨(fb h).2,by rw[eu];exact ie (fb h).1,rfl,gv _ _⟩
theorem tv{us:Array aa}{l:V}{Z:List ag}(sm:bF l=true)(q:VL X h Z M l us.toList):(us.size:Int)<2 ^ 63/\(aO l:Int)=us.size:=by
 have h1:=fI sm;have h2:=q.len;rw[d6] at h2;rw[h2] at h1;exact⟨tU (gT.mpr h1) (b:=(10000:Nat)) (by decide),congrArg ab h2⟩
theorem Iu{l x:V}{a:ag}{us:Array aa}(sm:bF l=true)(hx:cb x=.ok (ab (aO l)))(st:ao.bk=B.bk)(rd:Rd X N M s B)(i1:s.heap.IsList a us)(v1:VL X s.heap (N++foot M) M l us.toList):wpAny (model X.prog X.w) A (call (.builtin "len") [.ref a]) (Pe X N M s x ao) E0 s:=
 PyProof.Rows.len_list i1 (tv sm v1).1 (Pe.same rd st (ox (hx.trans (congrArg OI.ok (tv sm v1).2))) rfl)
theorem len_str{y:Bool}{t:S}(hv:cu v=.ok t):He X (λu=>call (.builtin "len") [u]) v B (L5 y t B):=λx ao e h=>by
 have k:=MJ e h;exact⟨k.1,λA N M s u Y rd q=>(b8 hv q).elim λtk hu=>hu▸P.len_str (by rw[eg];exact Int.not_le.mpr (tU (b:=(1000000:Nat)) (c:=2 ^ 63) (gT.mpr k.2.1) (by decide))) (by rw[eg];exact Pe.same rd k.2.2.2 (ox k.2.2.1) rfl)⟩
theorem R6{i:Nat}:He X (λu=>call (.builtin "len") [u]) (.loc i) B (Hw (bk B i) B):=λx ao e h=>jO nE e λo ho e=>by
 have k:∀l,dF (.ok o)=.ok l->bF l=true->cb x=.ok (ab (aO l))->ao.bk=B.bk->Ok B->Ok B/\∀A N M s u,Rl A->Rd X N M s B->Vr X N M s (.loc i) u->wpAny (model X.prog X.w) A (call (.builtin "len") [u]) (Pe X N M s x ao) E0 s:=
  λl hl sm hx st h=>⟨h,λA N M s u Y rd q=>(dj (v:=.loc i) (l:=l) rd (show dF (bk _ i)=_ by refine ah ho ?_;exact hl) q).elim λa p=>p.elim λus p=>p.1▸Iu sm hx st rd p.2.1 p.2.2⟩
 induction o with
 |list l=>have p:=ya e;exact k l rfl p.1 (by refine ah p.2.1 ?_;rfl) (ah p.2.2 rfl) (p.2.2▸h)
 |du l=>(injection e with g1 g2;subst g1;subst g2);exact k l rfl (fb h).1 rfl (gv _ _) (fb h).2
 |_=>exact j9 e
theorem XA:He X (λu=>call (.builtin "len") [u]) v B (WA v B):=by
 induction v using V.casesOn with
 |str t=>exact len_str (y:=true) rfl
 |ak t=>exact len_str (y:=false) rfl
 |tup l=>
  intro x ao e h;have p:=ya e;refine⟨p.2.2▸h,λA N M s u Y rd q=>?_⟩;refine iZ q λa us fF na i1 v1=>?_;clear q;subst fF;exact PyProof.Rows.len_tuple i1 (tv p.1 v1).1 (Pe.same rd (ah p.2.2 rfl) (ox (by refine ah p.2.1 (eV ((tv p.1 v1).2) ?_);rfl)) rfl)
 |lst l=>
  intro x ao e h;have p:=ya e;refine⟨p.2.2▸h,λA N M s u Y rd q=>?_⟩;refine iZ q λa us l_ na i1 v1=>?_;clear q;subst l_;exact Iu p.1 (by refine ah p.2.1 ?_;rfl) (ah p.2.2 rfl) rd i1 v1
 |loc i=>exact R6
 |_=>exactλx ao e=>j9 e
theorem Iv(i:Int):(if i<0 then -i else i)=fR i:=by
 induction i with
 |ofNat n=>exact if_neg (gS.mpr (b9 n))
 |negSucc n=>refine ah (if_pos (iM n)) ?_;rfl
theorem XB:He X (λu=>call (.builtin "abs") [u]) v B (L6 fR v B):=Ig (g:=λu=>call (.builtin "abs") [u]) λhq=>call_abs_int λu tk=>hq _ _ (by rw[Iv]) _
theorem XC:He X (λu=>call (.type "int") [u]) v B (L6 id v B):=Ig (g:=λu=>call (.type "int") [u]) λhq=>call_int_int (hq _ _ rfl _)
theorem F3:(1000000:Nat)<10 ^ 4300:=Nat.lt_of_lt_of_le (show 1000000<10 ^ 7 by decide) (zL (by decide) (by decide))
theorem Iw(ok:mO X){i:Int}{x:V}(hl:low i=true)(hv:cb v=.ok i)(hx:cu x=.ok (fS i))(st:ao.bk=B.bk)(o:Ok B):Ok B/\∀A N M s u,Rl A->Rd X N M s B->Vr X N M s v u->wpAny (model X.prog X.w) A (call (.type "str") [u]) (Pe X N M s x ao) E0 s:=
 ⟨o,λA N M s u rl rd q=>(b7 hv q).elim λtk hu=>hu▸by
  have hb:=ti hl;have XD:i.natAbs<10 ^ 4300:=Nat.lt_trans (by omega) F3;exact PyProof.Rows.str_of_int_or rl.1 (ok.Xy.keeps rd.base) (λY=>Pe.same rd st (by rw[Ir];exact mK hx) rfl) λh2=>absurd XD (iB.mpr h2)⟩
theorem P6{x:V}{t:S}(hv:cu v=.ok t)(e:RE.ok v B=.ok x ao)(h:Ok ao):Ok B/\∀A N M s u,Rl A->Rd X N M s B->Vr X N M s v u->wpAny (model X.prog X.w) A (call (.type "str") [u]) (Pe X N M s x ao) E0 s:=by
 injection e with g1 g2;subst g1;subst g2;exact⟨h,λA N M s u Y rd q=>(b8 hv q).elim λtk hu=>hu▸PySem.P.str_of_str (Pe.same rd rfl (mK hv) rfl)⟩
theorem XE(ok:mO X):He X (λu=>call (.type "str") [u]) v B (WB v B):=by
 induction v using V.casesOn with
 |int i=>exactλx ao e h=>jT nE e λhl e=>by(injection e with g1 g2;subst g1;subst g2);exact Iw ok hl rfl rfl rfl h
 |sym i=>exactλx ao e h=>by(injection e with g1 g2;subst g1;subst g2);exact Iw ok (fb h).1 rfl rfl (gv _ _) (fb h).2
 |rV a k=>exactλx ao e h=>by(injection e with g1 g2;subst g1;subst g2);exact Iw ok (fb h).1 rfl rfl (gv _ _) (fb h).2
 |str t=>exactλx ao e h=>P6 rfl e h
 |ak t=>exactλx ao e h=>P6 rfl e h
 |_=>exactλx ao e=>j9 e
theorem Iy{y:Bool}{t:S}(hv:cu v=.ok t):He X (λu=>call (.builtin "ord") [u]) v B (QZ y t B):=λx ao e h=>by
 rcases t with _|⟨c,_|_⟩
 ·exact j9 e
 ·injection e with g1 g2;subst g1;subst g2;exact⟨h,λA N M s u Y rd q=>(b8 hv q).elim λtk hu=>hu▸ord_of_one rfl (Pe.same rd rfl (ox (i:=ab c) (by induction y<;>rfl)) rfl)⟩
 ·exact j9 e
theorem XF:He X (λu=>call (.builtin "ord") [u]) v B (WC v B):=by
 induction v using V.casesOn with
 |str t=>exact Iy rfl
 |ak t=>exact Iy rfl
 |_=>exactλx ao e=>j9 e
theorem XG:He X (λu=>call (.builtin "chr") [u]) v B (WD v B):=λx ao e h=>Mn nE e λi hv e=>by
 subst hv
 rcases i with c|n
 ·refine jT nE e λhb e=>?_;injection e with g1 g2;subst g1;subst g2
  have hb:=cF.mp hb;exact⟨h,λA N M s u Y rd q=>q.elim λtk hu=>hu▸chr_of_range (b9 c) (gT.mpr (bb (jX hb) (by decide))) (Pe.same rd rfl ⟨_,rfl⟩ rfl)⟩
 ·exact j9 e
theorem MK{y:Bool}{i j d:Int}{x:V}(e:WE y i j d B=.ok x ao)(h:Ok ao):0<d/\low d=true/\mid i=true/\mid j=true/\x=.om i j d/\ao.bk=B.bk/\Ok B:=jT nE e λh1 e=>jT nE e λh2 e=>by
 rw[bj,decide_eq_true_iff] at h1
 induction y with
 |true=>exact jT nE e λh3 e=>by(injection e with g1 g2;subst g1;subst g2);exact WY h1 h2 ((cx h3).1) ((cx h3).2) rfl rfl h
 |false=>(injection e with g1 g2;subst g1;subst g2);exact WY h1 h2 ((cx (fb h).1).1) ((cx (fb h).1).2) rfl (gv _ _) ((fb h).2)
theorem Cw{i j d:Int}{x:V}(p:0<d/\low d=true/\mid i=true/\mid j=true/\x=.om i j d/\ao.bk=B.bk/\Ok B)(rd:Rd X N M s B){t1 t2 t3:Tok}{o:Obj}{k:Nat}(ho:IsRange (s.heap.push o) s.heap.objs.size i j d t1 t2 t3):Pe X N M s x ao (.ref s.heap.objs.size) {s with heap:=s.heap.push o,toks:=k}:=
 Pe.all rd p.2.2.2.2.2.1 (All.push _) (p.2.2.2.2.1▸(ji _ _ _ _ rfl (rd.out (bG _)) ho p.2.2.1 p.2.2.2.1))
theorem ML{l:V}:Bl X (.type "range") l B (Hy l B):=λx ao e h=>lW nE e λa r hl e=>by
 subst hl;refine jNC nE e (λhr e=>jI nE e λj hj e=>?_) λb t hr e=>jNC nE e (λht e=>jI nE e λi hi e=>jI nE e λj hj e=>?_) λc u ht e=>vn nE e λhu e=>Mn nE e λk hk e=>jI nE e λi hi e=>jI nE e λj hj e=>?_
 all_goals
  have p:=MK e h;refine⟨p.2.2.2.2.2.2,λA N M s us rl rd q=>?_⟩
 ·subst hr;exact R5 q λu hu q=>(b7 hj q).elim λt ht=>hu▸ht▸call_range_1 (Cw p rd (bX _ rfl))
 ·refine eQ λkk=>?_;subst hr ht;obtain⟨u,us,rfl,q1,q⟩:=q;refine kk ?_;exact R5 q λv hv q=>(b7 hi q1).elim λt ht=>(b7 hj q).elim λt' ht'=>hv▸ht▸ht'▸call_range_2 (Cw p rd (bX _ rfl))
 ·refine eQ λkk=>?_;subst hr ht hu hk;refine bJ q λu us fF q1 vo=>?_;subst fF;obtain⟨v,vs,rfl,q2,q⟩:=vo;refine kk ?_
  have:=ti p.2.1;exact R5 q λw hw q=>(b7 hi q1).elim λt ht=>(b7 hj q2).elim λt' ht'=>q.elim λt'' abo=>hw▸ht▸ht'▸abo▸call_range_3 (Int.ne_of_gt p.1) (Cw p rd (bX _ rfl)) (.inl (noPylong_small (by omega)))
end
end
set_option backward.match.sparseCases false
section
open PySem.SeqAt
section
open Builtin Builtin.Str StrLaws
theorem Iz(x y:Str)(hi:Nat):∀(l:List Nat)(st:Array Nat×Nat),st.fst.size=1->(forIn l st (occBody x y hi 1)).run.fst=st.fst:=by
 intro zr
 induction zr with
 |nil=>
  exact @λst _=>rfl
 |cons a l bN=>
  exact @λst h=>by
   rw[nX];dsimp only[occBody];refine ah (if_neg (by omega)) ?_;exact bN _ h
theorem occ_first(t:S)(c:Nat):∀(n k lo:Nat),n+k=t.length+1->lo≤k->
  (forIn (e6 k n) ((#[] :Array Nat),lo) (occBody (mkStr t) ⟨#[c]⟩ t.length 1)).run.fst.toList=(match gJ c (t.drop k) k with|.ofNat i=>[i] |.negSucc _=>[]):=by
 intro zr
 induction zr with
 |zero=>
  exact @λk lo h _=>by
   rw[nQ (by omega)]
   rfl
 |succ n bN=>
  exact @λk lo h hl=>by
   rw[lG,nX];have key:=subAt_one (mkStr t) c k;rw[eg] at key;have abp:(mkStr t).cps.toList=t:=by simp[mkStr]
   rw[abp] at key
   by_cases hc:t[k]? =some c
   ·refine aD (key.mpr hc) λh1 h2=>?_;have hW:=(cA.mp hc).1
    have hd:t.drop k=c::t.drop (k+1):=by
     refine ah (lH hW) ?_
     have:=(cA.mp hc).2;exact ah this rfl
    have hb:occBody (mkStr t) ⟨#[c]⟩ t.length 1 k (#[],lo)=pure (nJ (#[].push k,k+(⟨#[c]⟩:Str).length)):=by
     unfold occBody;exact ah (if_pos ⟨⟨⟨Nat.zero_lt_one,hl⟩,h1⟩,h2⟩) rfl
    refine ah hb (ah hd ?_)
    have hf:gJ c (c::t.drop (k+1)) k=.ofNat k:=by
     show(@Bool.rec (λY=>Int) _ (ab k) (aC c c))=_;rw[jY]
    refine ah hf ?_;show((forIn (e6 (k+1) n) (#[].push k,k+(⟨#[c]⟩:Str).length) (occBody (mkStr t) ⟨#[c]⟩ t.length 1)).run.fst).toList=[k];rw[Iz _ _ _ _ _ (by simp)]
    rfl
   ·have hb:occBody (mkStr t) ⟨#[c]⟩ t.length 1 k (#[],lo)=pure (nJ (#[],lo)):=by
     unfold occBody;exact ah (if_neg (λh=>hc (key.mp ⟨h.1.2,h.2⟩))) rfl
    rw[hb];have ih:=bN (k+1) lo (by omega) (by omega);show((forIn (e6 (k+1) n) (#[],lo) (occBody (mkStr t) ⟨#[c]⟩ t.length 1)).run.fst).toList=_;rw[ih]
    by_cases hW:k<t.length
    ·have hd:t.drop k=t[k] ::t.drop (k+1):=lH hW;have qk:t[k] ≠c:=λe=>hc (by rw[eZ hW,e])
     have hf:gJ c (t[k] ::t.drop (k+1)) k=gJ c (t.drop (k+1)) (k+1):=by
      show(@Bool.rec (λY=>Int) (gJ c (t.drop (k+1)) (k+1)) (ab k) (aC t[k] c))=_;refine cW (aC t[k] c) (λhq=>?_) (λhq=>?_);rotate_left
      ·exact absurd (ta hq) qk
      ·rfl
     rw[hd,hf]
    ·rw[nQ (by omega),nQ (by omega)]
     rfl
theorem IA(t:S)(c:Nat):Txt.find (mkStr t) (mkStr [c])=gJ c t 0:=by
 have:=occ_first t c (t.length+1) 0 0 (by lia) (bT _);unfold Txt.find;show(match occurrences (mkStr t) ⟨#[c]⟩ 0 (mkStr t).length 1 with|i::_=>(i:Int)| [] => -1)=_;rw[occ_eq,eg];refine ah (show t.length+1 - 0=t.length+1 from rfl) (ah this (ah t7 ?_))
 have gen:∀(l:S)(k:Nat),(match (match gJ c l k with|.ofNat i=>[i] |.negSucc _=>[]) with|i::_=>(i:Int)| [] => -1)=gJ c l k:=by
  intro l
  induction l with
  |nil=>intro k;rfl
  |cons b r ih=>
   intro k;have hd:gJ c (b::r) k=(@Bool.rec (λY=>Int) (gJ c r (k+1)) (ab k) (aC b c)):=rfl;refine cBool (aC b c) (λhq=>?_) (λhq=>?_);rotate_left
   ·refine ah hd (ah hq ?_);rfl
   ·refine ah hd (ah hq ?_);exact ih (k+1)
 exact gen t 0
end
section
variable{X:Cx}{A:aM}{N:List ag}{M:List Lc}{s s':aj}{v w:V}{u u':aa}{B ao:Mm}{h h':ay}
noncomputable def VU:Mt->String
 |.append=>"list.append"|.index=>"list.index"|.join=>"str.join"|.find=>"str.find"|.get=>"dict.get"|.split=>"str.split"|_=>""
noncomputable def XH:Mt->Str
 |.append=>"append"|.index=>"index"|.join=>"join"|.find=>"find"|.get=>"get"|.split=>"split"|_=>""
theorem yb(rd:Rd X N M s B)(e:kL v B=true)(q:Vr X N M s v u):∃i l a us,v=.loc i/\bk B i=.ok (.list l)/\M[i]? =some (.one a)/\u=.ref a/\s.heap.PlainList a us/\VL X s.heap (N++foot M) M l us.toList:=Mp nT e λi hv e=>jO nT e λo ho e=>by
 subst hv
 induction o with
 |list l=>
  refine aL (kK rd ho) λp hp i6=>?_;refine bJ i6 λa us gY h1 h2=>?_;clear i6;subst gY;refine bQ q λp' kf Y vM=>?_;clear q;subst vM
  cases hp.symm.trans kf
  exact w4 i l a us rfl ho hp rfl h1 h2
 |_=>exact absurd e nT
theorem R7(e:kS v=true):∃t,cu v=.ok t:=jS nT e λt h Y=>⟨t,h⟩
theorem MM(e:kD v B=true):∃l,Mine.Internal.dictOf v B=.ok l:=jV nT e λt h Y=>⟨t,h⟩
set_option maxRecDepth 20000 in
theorem IB{m:Mt}(rd:Rd X N M s B)(e:Q7 m v B=true)(q:Vr X N M s v u){pl:Sem Bool}{Q:aa×List aa->aj->Prop}{acW:aa->aj->Prop}(h:Q (.builtin (VU m),[u]) s):
  wpAny (model X.prog X.w) A (getMethod u (XH m) pl) Q acW s:=by
 have lst:∀{nm:Str}{id:String},kL v B=true->Slot "list" nm id->typeOf (.builtin id)=pure (.type "method_descriptor")->Q (.builtin id,[u]) s->wpAny (model X.prog X.w) A (getMethod u nm pl) Q acW s:=λ{nm id} e sl ty h=>by
  refine vg (yb rd e q) λi l a us AA Y Y XI hp Y=>?_;subst AA;subst XI;refine bc hp λn hn=>?_;clear hp;exact qK (T:="list") (aQ _ hn rfl) F.plainAttrs_list sl ty (λb hb=>by injection hb with hb;subst hb;exact(aQ _ hn rfl)) h
 have str:∀{nm:Str}{id:String},kS v=true->Slot "str" nm id->typeOf (.builtin id)=pure (.type "method_descriptor")->Q (.builtin id,[u]) s->wpAny (model X.prog X.w) A (getMethod u nm pl) Q acW s:=λ{nm id} e sl ty h=>by
  refine bc (R7 e) λt ht=>?_;refine bc (b8 ht q) λtk Ar=>?_;subst Ar;exact qK (T:="str") (jZ _ _ _) F.plainAttrs_str sl ty (λb hb=>nomatch hb) h
 induction m with
 |append=>exact lst e F.slot_list_append F.type_list_append h
 |index=>exact lst e F.slot_list_index F.type_list_index h
 |join=>exact str e F.slot_str_join F.type_str_join h
 |find=>exact str e F.slot_str_find F.type_str_find h
 |split=>exact str e qQ F.type_str_split h
 |get=>
  refine eQ λkk=>?_;refine bc (MM e) λl hl=>?_;refine bQ (jL rd hl q) λa AB d0 d=>?_;subst AB;refine kk ?_
  rcases d with⟨f,hm,_⟩|⟨f,hm,_⟩
  ·exact qK hm.typeIs F.plainAttrs_dict F.slot_dict_get F.type_dict_get hm.noDict h
  ·exact qK hm.typeIs F.plainAttrs_dict F.slot_dict_get F.type_dict_get hm.noDict h
 |extend=>exact nomatch (show false=true from e)
 |other=>exact nomatch (show false=true from e)
theorem p8{i:Nat}{o:O}(e:upd i o B=.ok ao):lT B.bk i o=.ok ao.bk/\ao.nj=B.nj:=by
 obtain⟨a,b,c⟩:=B;have e:z_ (lT a i o) b c=.ok ao:=e;refine mOL (lT a i o) (λh=>?_) (λz h=>?_)
 ·replace e:=h▸e;exact PJ e
 ·replace e:=h▸e;refine iRM e ?_;exact⟨rfl,rfl⟩
theorem Pe.put{i:Nat}{o:O}{p:Lc}{x:V}(r:Rd X N M s B)(e:upd i o B=.ok ao)(hp:M[i]? =some p)(kb:Ri p s.heap s'.heap)(q:OR X s'.heap (N++foot M) M o p)(hx:∀(P:eK (N++foot M) M s.heap (N++foot M) M s'.heap),VR X s'.heap (N++foot M) M x u)
  (hg:s'.gens=s.gens:=by rfl) (ho:s'.os=s.os:=by rfl):Pe X N M s x ao u s':=
 (bS M (xU hp kb hg ho) (r.put hp (p8 e).1 kb q) (hx ⟨λb o n e=>kb b o (λm=>n (bD _ (dO hp m))) e,λY m n=>absurd m n,λY Y e=>e⟩))
theorem ri{p:Lc}{i:Nat}(hp:M[i]? =some p)(kb:Ri p h h'):eK (N++foot M) M h (N++foot M) M h':=⟨λb o n e=>kb b o (λm=>n (bD _ (dO hp m))) e,λY m n=>absurd m n,λY Y e=>e⟩
theorem fq{a:ag}(h1:jD a h h'):Ri (.one a) h h':=λb o n e=>by
 refine ah (h1.2 b (λe=>n (by subst e;simp[Lc.foot]))) ?_;exact e
theorem R8{r:RM}{x:V}(e:okN r=.ok x ao):x=.none/\r=.ok ao:=by
 induction r with
 |no=>exact absurd e nE
 |ok B=>refine DQ e ?_;exact⟨rfl,rfl⟩
noncomputable def Mc(X:Cx)(m:Mt)(v l:V)(B:Mm)(r:RE):Prop:=∀x ao,r=.ok x ao->Ok ao->Ok B/\∀A N M s u us,Rl A->Rd X N M s B->Vr X N M s v u->Vl X N M s l us->wpAny (model X.prog X.w) A (call (.builtin (VU m)) (u::us)) (Pe X N M s x ao) E0 s
theorem rj{m:Mt}{f:V->Mm->RE}{l:V}(hf:∀w,zg X (λu u'=>call (.builtin (VU m)) [u,u']) v w B (f w B)):Mc X m v l B (j6 f l B):=λx ao e h=>x_ e λw hl e=>by
 subst hl;have p:=hf w x ao e h;exact⟨p.1,λA N M s u us rl rd q ql=>R5 ql λy hy q1=>hy▸p.2 A N M s u y rl rd q q1⟩
theorem IC{i:Nat}{xs:V}(ho:bk B i=.ok (.list xs)):zg X (λu u'=>call (.builtin (VU .append)) [u,u']) (.loc i) w B (Q0 i xs (.cons w .nil) B):=λx ao e h=>jT nE e λhs e=>by
 refine aD (R8 e) λCy e3=>?_;subst Cy;refine⟨by show AllP B.nj;refine eV ((p8 e3).2) ?_;exact h,λA N M s u y rl rd q q1=>?_⟩;refine vg (yb rd (v:=.loc i) (show DJ (bk B i)=true by refine ah ho ?_;rfl) q) λi' l' a vs hi bC hp R9 pl vl=>?_;subst R9;injection hi with g1;subst g1
 cases ho.symm.trans bC
 have hv:=mN vl (show VL X s.heap (N++foot M) M (.cons w .nil) [y] from(dy y [] rfl q1 rfl));have tw:=fI hs;replace tw:=d6▸(dA▸(hv.len▸tw));refine zQ pl (λh' pl' sb=>Pe.put rd e3 hp (fq sb) ⟨a,vs.push y,rfl,pl',by refine ah zl ?_;exact hv.mono (ri hp (fq sb))⟩ λP=>rfl) ?_;refine ah dm ?_;exact bb (Nat.le_of_succ_le tw) (by decide)
theorem ID{l:V}:Mc X .append v l B (j6 (DF v) l B):=rj λw x ao e h=>Mp nE e λi hv e=>jO nE e λo ho e=>by
 induction o with
 |list xs=>exact hv▸IC ho x ao e h
 |_=>exact j9 e
end
end
set_option backward.match.sparseCases true
section
open PySem.SeqAt
open PySem.Builtin PySem.Builtin.Str
section
variable{X:Cx}{A:aM}{N:List ag}{M:List Lc}{s s':aj}{v w:V}{u u':aa}{B ao:Mm}{h h':ay}
theorem IE{Z:List ag}{y:Bool}{i:Int}{t:Tok}:VR X h Z M (PA y i) (.int i t):=by induction y<;>exact⟨_,rfl⟩
theorem R'{l:V}:Mc X .find v l B (j6 (PB v) l B):=rj λw x ao e h=>jS nE e λt hv e=>jS nE e λa hw e=>by
 rcases a with _|⟨c,_|_⟩
 ·exact j9 e
 ·injection e with g1 g2;subst g1;subst g2;exact⟨h,λA N M s u u' rl rd q q1=>(b8 hv q).elim λt1 h1=>(b8 hw q1).elim λt2 h2=>h1▸h2▸SC.find (Pe.same rd rfl (by rw[IA];exact IE) rfl)⟩
 ·exact j9 e
theorem Lk.abq{a:ag}{o:Option aa}(l:Lk X s u a o){Q:aa->aj->Prop}{acW:aa->aj->Prop}(hq:Q (o.getD .none) {s with toks:=s.toks+1}):wpAny (model X.prog X.w) A (call (.builtin "dict.get") [.ref a,u]) Q acW s:=by
 obtain⟨h0,⟨k,f,h1,h2,rfl⟩|⟨k,f,h1,h2,rfl⟩⟩:=l
 ·exact qL PySem.F.slot_dict_get h2.typeIs PySem.F.entry_dict_get (PySem.F.args_dict_get_2 _ _) (meets_dict_get _ a h1 h0) (aQ _ h2 hq)
 ·exact qL PySem.F.slot_dict_get h2.typeIs PySem.F.entry_dict_get (PySem.F.args_dict_get_2 _ _) (meets_dict_get _ a h1 h0) (aQ _ h2 hq)
theorem Lk.abr{a:ag}{o:Option aa}{d:aa}(l:Lk X s u a o){Q:aa->aj->Prop}{acW:aa->aj->Prop}(hq:Q (o.getD d) {s with toks:=s.toks+1}):wpAny (model X.prog X.w) A (call (.builtin "dict.get") [.ref a,u,d]) Q acW s:=by
 obtain⟨h0,⟨k,f,h1,h2,rfl⟩|⟨k,f,h1,h2,rfl⟩⟩:=l
 ·exact qL PySem.F.slot_dict_get h2.typeIs PySem.F.entry_dict_get (PySem.F.args_dict_get_3 _ _ _) (meets_dict_get_default _ a h1 h0 d) (aQ _ h2 hq)
 ·exact qL PySem.F.slot_dict_get h2.typeIs PySem.F.entry_dict_get (PySem.F.args_dict_get_3 _ _ _) (meets_dict_get_default _ a h1 h0 d) (aQ _ h2 hq)
theorem P7{k d x:V}(e:Q4 (Mine.Internal.dictOf v B) k d B=.ok x ao)(h:Ok ao):Ok B/\∀N M s u uk ud,Rd X N M s B->Vr X N M s v u->Vr X N M s k uk->Vr X N M s d ud->∃a o,u=.ref a/\Lk X s uk a o/\ao.bk=B.bk/\Vr X N M s x (o.getD ud):=jV nE e λl hd e=>by
 have e:orD (inD k l B) d=.ok x ao:=e;have g:=H' (X:=X) (v:=k) (B:=B) (l:=l)
 cases hr:inD k l B with
 |no=>rw[hr] at e;exact j9 e
 |Hb z pM=>
  rw[hr] at e;injection e with g1 g2;subst g1;subst g2
  refine c_ (g.1 _ _ hr h) λXJ XK gq3=>?_;exact⟨XJ,λN M s u uk ud rd q q1 q2=>(jL rd hd q).elim λa p=>(gq3 s N M uk a q1 p.2).elim λo r=>(mH a _ p.1 r.1 XK r.2)⟩
 |Ha pM=>
  rw[hr] at e;injection e with g1 g2;subst g1;subst g2
  have g:=g.2 _ hr h;exact⟨g.1,λN M s u uk ud rd q q1 q2=>(jL rd hd q).elim λa p=>(mH a _ p.1 (g.2.2 s N M uk a q1 p.2) g.2.1 q2)⟩
theorem XM{l:V}:Mc X .get v l B (PD v l B):=λx ao e h=>lW nE e λk r hl e=>jNC nE e (λhr e=>by
  have g:=P7 (X:=X) e h;subst hr hl;exact⟨g.1,λA N M s u us rl rd q ql=>R5 ql λy hy q1=>(g.2 N M s u y .none rd q q1 rfl).elim λa p=>p.elim λo p=>hy▸p.1▸p.2.1.abq (Pe.same rd p.2.2.1 p.2.2.2 rfl)⟩) λd t hr e=>vn nE e λht e=>by
  refine aD (P7 (X:=X) e h) λXJ XK=>?_;refine⟨XJ,λA N M s u us rl rd q ql=>?_⟩;refine eQ λkk=>?_;subst hl hr ht;refine bJ ql λy ys gY q1 q2=>?_;clear ql;subst gY;refine kk ?_;exact R5 q2 λz hz q2=>(XK N M s u y z rd q q1 q2).elim λa p=>p.elim λo p=>hz▸p.1▸p.2.1.abr (Pe.same rd p.2.2.1 p.2.2.2 rfl)
theorem MN(hw:flat w=true)(l:V):∀(k:Nat)(B:Mm)(x:V)(ao:Mm),idxOf w l k B=.ok x ao->Ok ao->Ok B/\ao.bk=B.bk/\∃j,x=.int (ab (k+j))/\
  ∀h Z M us u,VL X h Z M l us->VR X h Z M w u->∃hj:j<us.length,Cg us[j] u=true/\∀m(hm:m<us.length),m<j->Cg us[m] u=false:=by
 induction l using Mq with
 |nil=>intro k B x ao e;exact j9 e
 |PI v h1 h2=>intro k B x ao e;exact j9 ((congrFun (congrFun (h2 (Nat->Mm->RE) (λY Y=>RE.no) (λY Y=>RE.no) _) k) B).symm.trans e)
 |cons y r ih=>
  intro k B x ao e h;refine jB nE (show Hv k (Hl y w B) (idxOf w r)=_ from e) λb pM he e=>?_
  induction b with
  |true=>
   injection e with g1 g2;subst g1;subst g2;have g:=(Ao (X:=X) hw _ _ he h).2.2;refine⟨g.1,g.2.1,0,rfl,λh Z M us u ql q=>?_⟩;refine bJ ql λz zs fF q1 q2=>?_;clear ql;subst fF;exact⟨lN _,g.2.2 h Z M _ _ q1 q,λm Y hm=>absurd hm (eA _)⟩
  |false=>
   refine eQ λkk=>?_;refine c_ (ih (k+1) pM x ao e h) λo1 Xn i6=>?_;refine aL i6 λj hx g1=>?_;clear i6;refine c_ ((Ao (X:=X) hw _ _ he o1).2.2) λXJ XK gq3=>?_;refine kk ?_;refine⟨XJ,Xn.trans XK,j+1,hx.trans (by rw[lO];rfl),λh Z M us u ql q=>?_⟩;refine bJ ql λz zs kg q1 q2=>?_;clear ql;subst kg;obtain⟨hj,a,b⟩:=g1 h Z M zs u q2 q;refine⟨Nat.succ_lt_succ hj,a,λm hm hW=>?_⟩
   induction m using dM with
   |zero=>exact gq3 h Z M _ _ q1 q
   |succ m=>exact b m (jy hm) (jy hW)
theorem MO{i:Nat}{xs:V}{hs:bF xs=true}(ho:bk B i=.ok (.list xs))(hf:flat w=true)(F4:pI xs=true):zg X (λu u'=>call (.builtin (VU .index)) [u,u']) (.loc i) w B (idxOf w xs 0 B):=λx ao e h=>by
 refine c_ (MN (X:=X) hf xs 0 B _ ao e h) λo st P8=>?_;refine aL P8 λj hx g=>?_;clear P8;refine⟨o,λA N M s u y rl rd q q1=>?_⟩;refine vg (yb rd (v:=.loc i) (show DJ (bk B i)=true by refine ah ho ?_;rfl) q) λi' l' a vs hi bC hp XN pl vl=>?_;subst XN;injection hi with g1;subst g1
 cases ho.symm.trans bC
 obtain⟨hj,g1,g2⟩:=g _ _ _ _ _ vl q1;have tw:=fI hs;rw[vl.len] at tw;rw[d6] at hj tw
 exact pl.elim λn ha=>lR PySem.F.slot_list_index (aQ _ ha rfl) PySem.F.entry_list_index (PySem.F.args_list_index_2 _ _)
  (list_indexAt a vs n none #[] y (λz=>Cg z y) j hj (qp (gR.mpr (Nat.lt_of_lt_of_le hj tw)) (by decide)) g1 λm hm hW=>g2 m (by refine ah d6 ?_;exact hm) hW)
  (bL ha (λz hz=>(Ap F4 vl z (nv.mpr hz)).elim λv' p=>Al p.1 hf p.2 q1) (Pe.same rd st (by rw[hx,d8];exact⟨s.toks,rfl⟩) rfl))
theorem MP{l:V}:Mc X .index v l B (j6 (HA v) l B):=rj λw x ao e h=>Mp nE e λi hv e=>jO nE e λo ho e=>by
 induction o with
 |list xs=>exact jT nE e λhc e=>hv▸MO (hs:=(cx (cx hc).2).2) ho (cx hc).1 (cx (cx hc).2).1 x ao e h
 |_=>exact j9 e
theorem AD{a b:OS}{t:S}(e:kH a b=.ok t):∃x y,a=.ok x/\b=.ok y/\t=x++y:=jS nS e λx h1 e=>jS nS e λy h2 e=>by refine W9 e ?_;exact dy x y h1 h2 (eM x y)
theorem MQ{d:S}{l:V}:∀{t:S},joinR d l=.ok t->∀h Z M us,VL X h Z M l us->∃ys:List S,StrsAre us (ys.map mkStr)/\t=ys.flatMap (λy=>d++y):=by
 induction l using Mq with
 |nil=>intro t e h Z M us q;refine W9 e ?_;subst q;exact aQ [] .nil rfl
 |PI v h1 h2=>intro t e;exact nxS ((h2 OS OS.no (OS.ok []) _).symm.trans e)
 |cons a r ih=>
  intro t e h Z M us q;refine jS nS (show @OS.rec (λY=>OS) OS.no (λy=>OS.ok (iU d y)) (kH (cu a) (joinR d r))=_ from e) λy e2 e=>?_;refine bJ (AD e2) λy1 y2 e1 e3 XO=>?_;subst XO;refine bJ q λz zs vq q1 q2=>?_;clear q;subst vq;refine bc (b8 e1 q1) λtk Cz=>?_;subst Cz;refine aL (ih e3 h Z M zs q2) λys h1 vt=>?_;subst vt;refine W9 e ?_;exact⟨y1::ys,.cons _ _ h1,by rw[eM,lI,bH]⟩
theorem CA(d:S):∀(ys:List S)(acc:Array Nat),((ys.map mkStr).foldl (λacc p=>acc++(mkStr d).cps++p.cps) acc)=(acc.toList++ys.flatMap (λy=>d++y)).toArray:=by
 intro zr
 induction zr with
 |nil=>
  exact @λacc=>by simp
 |cons y ys bN=>
  exact @λacc=>by
   rw[dB,List.foldl_cons,bN];simp[mkStr]
theorem MR(d:S):∀ys:List S,(ys.map nY).sum+ys.length * d.length=(ys.flatMap (λy=>d++y)).length:=by
 intro zr
 induction zr with
 |nil=>
  exact by simp
 |cons y ys bN=>
  exact by
   rw[dB,List.sum_cons,ey,lI,dA,dA,←bN,Nat.add_mul,Nat.one_mul,uh d.length,jz,jz,uh d.length,jz]
theorem MS{d:S}{l:V}{t:S}(e:xi d l=.ok t)(h:ay)(Z:List ag)(M:List Lc)(us:List aa)(q:VL X h Z M l us):∃ys:List S,StrsAre us (ys.map mkStr)/\Txt.join (mkStr d) (ys.map mkStr)=mkStr t/\(ys.map nY).sum+ys.length * d.length≤t.length+d.length:=
 jNC nS e (λhl e=>by subst hl;refine W9 e ?_;subst q;exact⟨[],.nil,rfl,by simp⟩) λa r hl e=>by
  subst hl;refine bJ (AD (a:=cu a) (b:=joinR d r) e) λy1 y2 e1 e2 R_=>?_;subst R_;refine bJ q λz zs mP q1 q2=>?_;clear q;subst mP;refine bc (b8 e1 q1) λtk vD=>?_;subst vD;refine aL (MQ e2 h Z M zs q2) λys h1 p9=>?_;subst p9;refine(bS (y1::ys) (.cons _ _ h1) ?_ ?_)
  ·show(⟨((ys.map mkStr).foldl (λacc p=>acc++(mkStr d).cps++p.cps) (mkStr y1).cps)⟩:Str)=_;rw[CA];simp[mkStr]
  ·rw[dB,List.sum_cons,ey,dA,Nat.add_mul,Nat.one_mul,←MR,jz,jz,jz];exact bT _
theorem map_len(ys:List S):(ys.map mkStr).map (·.length)=ys.map nY:=by
 refine ah fM ?_;congr 1
theorem Sa{l:V}:Mc X .join v l B (j6 (Hz v) l B):=rj λw x ao e h=>Mo nE e λd hv e=>jT nE e λhd e=>jV nE e λxs hl e=>jS nE e λt hj e9=>by
 subst hv;refine mG (Cf e9 h) λo ht st hx=>?_;refine⟨o,λA N M s u y rl rd q q1=>?_⟩;refine bc q λtk Sd=>?_;clear q;subst Sd;refine bJ (dj rd hl q1) λa vs pZ i1 v1=>?_;subst pZ;refine bQ (MS hj _ _ _ _ v1) λzs h1 h2 h3=>?_;refine join_list i1 h1 ?_ λt' k=>by refine ah h2 ?_;exact Pe.same rd st (mK hx) rfl
 rw[map_len,bx,eg];exact bb h3 (bb (Nat.add_le_add ht (ie hd)) (by decide))
noncomputable def vO(c:Nat):S->S->List S
 | [],acc=>[acc.reverse]
 |a::r,acc=>if a=c then acc.reverse::vO c r [] else vO c r (a::acc)
theorem ro:∀(l m:S),wZ l m=l.reverse++m:=by
 intro zr
 induction zr with
 |nil=>
  exact @λm=>rfl
 |cons a l bN=>
  exact @λm=>by
   show wZ l (a::m)=_;rw[bN];simp
noncomputable def XQ(y:Bool):List S->V
 | [] =>.nil
 |t::r=>.cons (DA y t) (XQ y r)
theorem AE(y:Bool)(c:Nat):∀(l acc:S),kC y c l acc=XQ y (vO c l acc):=by
 intro zr
 induction zr with
 |nil=>
  exact @λacc=>by
   show V.cons (DA y (wZ acc [])) V.nil=_;rw[ro];simp[vO,XQ]
 |cons a r bN=>
  exact @λacc=>by
   show(@Bool.rec (λY=>V) (kC y c r (a::acc)) (V.cons (DA y (wZ acc [])) (kC y c r [])) (aC a c))=_;rw[bN,bN,ro,cM];refine ah (show vO c (a::r) acc=if a=c then acc.reverse::vO c r [] else vO c r (a::acc) from rfl) ?_;refine cW (aC a c) (λh=>?_) (λh=>?_);rotate_left
   ·refine ah (if_pos (ta h)) ?_;rfl
   ·exact ah (if_neg (Cj h)) rfl
theorem AF{c:Nat}{r:S}(p:S):∀{acc:S},c∉p->vO c (p++r) acc=vO c r (p.reverse++acc):=by
 induction p with
 |nil=>intro acc _;rfl
 |cons a p ih=>
  intro acc h;rw[aR,not_or] at h;refine(if_neg (jC h.1)).trans ((ih h.2).trans ?_);rw[iz,bH];rfl
theorem F5(c:Nat)(ps:List S):∀(p:S)(acc:S),(∀q∈p::ps,c∉q)->vO c (p++ps.flatMap (λq=>c::q)) acc=(acc.reverse++p)::ps:=by
 induction ps with
 |nil=>
  intro p acc h;refine(AF p (h p (.head _))).trans ?_;show [(p.reverse++acc).reverse] =_;rw[qr,qt]
 |cons q ps ih=>
  intro p acc h;refine(AF p (h p (.head _))).trans ((if_pos rfl).trans ?_);rw[qr,qt];exact congrArg (cf _) (ih q [] λz m=>h z (.tail _ m))
theorem yc(x:Str):mkStr x.cps.toList=x:=by cases x;simp[mkStr]
theorem join_one(c:Nat):∀(ps:List Str)(p:Str),(Str.join ⟨#[c]⟩ (p::ps)).cps.toList=p.cps.toList++(ps.map (·.cps.toList)).flatMap (λq=>c::q):=by
 intro zr
 induction zr with
 |nil=>
  exact @λp=>by simp[Str.join]
 |cons q ps bN=>
  exact @λp=>by
   have:=bN q;show(p++(⟨#[c]⟩:Str)++Str.join ⟨#[c]⟩ (q::ps)).cps.toList=_;have e:∀a b:Str,(a++b).cps=a.cps++b.cps:=λY Y=>rfl;rw[e,e,qm,qm,this];simp
theorem F6(t:S)(c:Nat):qR (mkStr t) ⟨#[c]⟩=(vO c t []).map mkStr:=by
 have hj:=StrLaws.join_split (mkStr t) ⟨#[c]⟩;have hf:=StrLaws.split_free (mkStr t) c;have hp:=split_pos (mkStr t) ⟨#[c]⟩;refine W7 (qR (mkStr t) ⟨#[c]⟩) (λhs=>?_) (λp ps hs=>?_)
 ·rw[hs] at hp;simp at hp
 ·rw[hs] at hj hf;have h1:=congrArg (λx:Str=>x.cps.toList) hj;simp only[join_one] at h1;have h2:t=p.cps.toList++(ps.map (·.cps.toList)).flatMap (λq=>c::q):=by refine ah h1 ?_;simp[mkStr]
  refine ah h2 (ah (F5 c _ _ [] (λq hq=>by
   rcases aR.mp hq with rfl|hq
   ·exact hf p aW
   ·refine aL (dC.mp hq) λz hz Se=>?_;subst Se;exact hf z (aP _ hz))) ?_)
  simp[yc,Function.comp_def]
theorem Sf{Z:List ag}{y:Bool}:∀{ps:List S}{l:List (Str×Tok)},l.map (·.1)=ps.map mkStr->VL X h Z M (XQ y ps) (strValues l):=by
 intro zr
 induction zr with
 |nil=>
  exact @λl e=>by
   induction l using bE with
   |nil=>rfl
   |cons _ _=>simp at e
 |cons p ps bN=>
  exact @λl e=>by
   induction l using bE with
   |nil=>simp at e
   |cons q l=>
    simp only[dB,zJ] at e;refine(dy (.str q.1 q.2) _ rfl ?_ (bN e.2));refine ah e.1 ?_;exact mK (xq y p)
theorem MT{y:Bool}:∀ps:List S,aO (XQ y ps)=ps.length:=by
 intro zr
 induction zr with
 |nil=>
  exact rfl
 |cons _ ps bN=>
  exact congrArg aZ (bN)
theorem IF{y:Bool}{t:S}{c:Nat}{d:S}(hd:d=[c])(hv:cu v=.ok t)(hw:cu w=.ok d){x:V}(e:iV (kC y c t []) B=.ok x ao)(hs:t.length≤1000000)(h:Ok ao):Ok B/\∀A N M s u u',Rl A->Rd X N M s B->Vr X N M s v u->Vr X N M s w u'->wpAny (model X.prog X.w) A (call (.builtin "str.split") [u,u']) (Pe X N M s x ao) E0 s:=by
 subst hd;have e0:=iH e;have e1:=fQ e0.2;refine⟨by show AllP B.nj;refine eV e1.2.2 ?_;exact h,λA N M s u u' rl rd q q'=>?_⟩;refine bc (b8 hv q) λt1 CB=>?_;subst CB;refine bc (b8 hw q') λt2 CC=>?_;subst CC;have hl:=fI e0.1;rw[AE,MT] at hl;have hsp:=F6 t c
 have fin:∀(l:List (Str×Tok))(k:Nat),l.map (·.1)=qR (mkStr t) ⟨#[c]⟩->Pe X N M s x ao (.ref s.heap.objs.size) {s with heap:=s.heap.push {cls:=.type "list",data:=.seq (strValues l).toArray},toks:=k}:=λl k hl=>by
  refine Pe.iV rd e (All.push _) (bG _) ⟨_,bX _ rfl⟩ ?_;rw[AE];rw[hsp] at hl
  simpa using Sf hl
 have hsz:(mkStr t).length≤sizeLine:=by rw[eg,dm];exact bb (by assumption) (bW _ _)
 cases h1:(decide ((mkStr t).length< (mkStr [c]).length)||decide (strKind (mkStr t)<strKind (mkStr [c])))
 ·cases hf:(occurrences (mkStr t) (mkStr [c]) 0 (mkStr t).length ((mkStr t).length+1)).isEmpty
  ·have P9:partsBetween (mkStr t) (occurrences (mkStr t) (mkStr [c]) 0 (mkStr t).length ((mkStr t).length+1)) (mkStr [c]).length=qR (mkStr t) ⟨#[c]⟩:=((if_neg (ne_true_of_eq_false h1)).trans (if_neg (ne_true_of_eq_false hf))).symm;refine lR qQ (jZ _ _ _) uL (uM _ _) (meets_str_split_sep (mkStr t) (mkStr [c]) _ _ h1 rfl hf hsz (by rw[P9,hsp,bx,dm];exact bb (by assumption) (bW _ _))) ?_;rw[strsFrom_eq];exact fin _ _ ((numbered_texts _ _).trans P9)
  ·exact lR qQ (jZ _ _ _) uL (uM _ _) (meets_str_split_not_found (mkStr t) (mkStr [c]) _ _ h1 rfl hf)
    (fin [(mkStr t,t1)] _ ((if_neg (ne_true_of_eq_false h1)).trans (if_pos hf)).symm)
 ·exact lR qQ (jZ _ _ _) uL (uM _ _) (meets_str_split_cannot_occur (mkStr t) (mkStr [c]) _ _ h1)
   (fin [(mkStr t,t1)] _ (if_pos h1).symm)
theorem Ea{y:Bool}{t:S}(hv:cu v=.ok t):zg X (λu u'=>call (.builtin (VU .split)) [u,u']) v w B (xP y t w B):=λx ao e h=>Mo nE e λd hw e=>by
 subst hw
 rcases d with _|⟨c,_|_⟩
 ·exact j9 e
 ·induction y with
  |true=>exact jT nE e λhs e=>IF rfl hv rfl e (ie hs) h
  |false=>
   have e:iV (kC false c t []) (m9 (cY t) B)=.ok x ao:=e;have o1:=fb (show AllP (m9 (cY t) B).nj by refine eV ((fQ (iH e).2).2.2) ?_;exact h);exact⟨o1.2,λA N M s u u' rl rd q q'=>(IF (X:=X) rfl hv (w:=.str [c]) rfl e (ie o1.1) h).2 A N M s u u' rl (by rw[Rd,gv];exact rd) q q'⟩
 ·exact j9 e
theorem MU{l:V}:Mc X .split v l B (j6 (HB v) l B):=rj λw=>by
 induction v using V.casesOn with
 |str t=>exact Ea (y:=true) rfl
 |ak t=>exact Ea (y:=false) rfl
 |_=>exactλx ao e=>j9 e
theorem MV{m:Mt}{l:V}:Mc X m v l B (lU m v l B):=by
 induction m with
 |append=>exact ID
 |index=>exact MP
 |join=>exact Sa
 |find=>exact R'
 |get=>exact XM
 |split=>exact MU
 |extend=>exactλx ao e=>j9 e
 |other=>exactλx ao e=>j9 e
theorem Sg(ok:mO X)(b:Nat)(hb:b≠2){l:V}:Bl X (r8 b) l B (wY b l B):=by
 match b with
 |0=>exact pb λv=>XA
 |1=>exact ML
 |2=>exact absurd rfl hb
 |3=>exact pb λv=>XB
 |4=>exact pb λv=>XE ok
 |5=>exact pb λv=>XF
 |6=>exact pb λv=>XG
 |7=>exact pb λv=>XC
 |n+8=>exactλx ao e=>j9 e
end
end
theorem bf:∀(e:Env)(x:Nat)(v:V),a8 (eS e x v) x=.ok v:=by
 intro zr
 induction zr with
 |nil=>
  exact @λx v=>by
   show(@Bool.rec (λY=>OV) OV.no (OV.ok v) (aC x x))=_;rw[jY]
 |cons y u r bN=>
  exact @λx v=>by
   show a8 (@Bool.rec (λY=>Env) (.cons y u (eS r x v)) (.cons y v r) (aC y x)) x=_;refine cW (aC y x) (λh=>?_) (λh=>?_);rotate_left
   ·show(@Bool.rec (λY=>OV) (a8 r x) (OV.ok v) (aC y x))=_;exact ah h rfl
   ·show(@Bool.rec (λY=>OV) (a8 (eS r x v) x) (OV.ok u) (aC y x))=_;refine ah h ?_;exact bN x v
theorem aG:∀(e:Env)(x z:Nat)(v:V),x≠z->a8 (eS e x v) z=a8 e z:=by
 intro zr
 induction zr with
 |nil=>
  exact @λx z v n=>by
   show(@Bool.rec (λY=>OV) OV.no (OV.ok v) (aC x z))=OV.no;refine cW (aC x z) (λh=>?_) (λh=>?_);rotate_left
   ·exact absurd (ta h) n
   ·rfl
 |cons y u r bN=>
  exact @λx z v n=>by
   show a8 (@Bool.rec (λY=>Env) (.cons y u (eS r x v)) (.cons y v r) (aC y x)) z=(@Bool.rec (λY=>OV) (a8 r z) (OV.ok u) (aC y z));refine cW (aC y x) (λh=>?_) (λh=>?_);rotate_left
   ·show(@Bool.rec (λY=>OV) (a8 r z) (OV.ok v) (aC y z))=_;refine cW (aC y z) (λh2=>?_) (λh2=>?_);rotate_left
    ·exact absurd ((ta h).symm.trans (ta h2)) n
    ·rfl
   ·show(@Bool.rec (λY=>OV) (a8 (eS r x v) z) (OV.ok u) (aC y z))=_;exact ah (bN x z v n) rfl
structure Fe(N:List ag)(env:PySem.Env):Prop where
 fn:env.scope.kind=.function
 gl:env.globals=mainGlobals
 bl:env.builtins=builtinsNs
 loc:env.locals∈N
 cell:∀x c,(x,c)∈env.cells->c∈N/\c≠env.locals
 XR:∀x y c,env.cells.lookup x=some c->env.cells.lookup y=some c->x=y
 P_:∀x,env.kindOf x=some .cell->∃c,env.cells.lookup x=some c
structure Rn(X:Cx)(env:PySem.Env)(e:Env)(N:List ag)(M:List Lc)(h:ay):Prop where
 ns:∃m,h.Ns env.locals m/\∀x v,bz x=true->a8 e (idOf x)=.ok v->env.kindOf x=some .local->∃u,m x=some u/\VR X h (N++foot M) M v u
 cl:∀x c,env.cells.lookup x=some c->∃tb,h.IsCell c tb
 cv:∀x v,bz x=true->a8 e (idOf x)=.ok v->(env.kindOf x=some .cell∨env.kindOf x=some .free)->∃c u,env.cells.lookup x=some c/\h.IsCell c (some u)/\VR X h (N++foot M) M v u
theorem f_{x:Str}{c:ag}:∀{l:List (Str×ag)},l.lookup x=some c->(x,c)∈l:=by
 intro zr
 induction zr with
 |nil=>
  exact @λh=>by(injection h)
 |cons zc l bN=>
  obtain⟨y,d⟩:=zc
  exact @λh=>by
   rw[jR] at h;refine cBool (x==y) (λhb=>?_) (λhb=>?_);rotate_left
   ·replace h:=hb▸h;refine Af h ?_;refine ah (eq_of_beq hb) ?_;exact aW
   ·replace h:=hb▸h;exact aP _ (bN h)
theorem Fe.Si{N:List ag}{env:PySem.Env}(f:Fe N env)(x:Str)(c:ag)(h:env.cells.lookup x=some c):c∈N/\c≠env.locals:=f.cell x c (f_ h)
noncomputable def own(env:PySem.Env):List ag:=env.locals::env.cells.map (·.2)
theorem MW{N:List ag}{env:PySem.Env}(f:Fe N env){x:Str}{c:ag}(h:env.cells.lookup x=some c):c∈own env:=by
 exact aP _ (dC.mpr (aQ _ (f_ h) rfl))
theorem fA{N:List ag}{env:PySem.Env}(f:Fe N env){b:ag}(h:b∈own env):b∈N:=by
 rcases aR.mp h with rfl|h
 ·exact f.loc
 ·refine aL (dC.mp h) λXS hc gY=>?_;obtain⟨x,c⟩:=XS;subst gY;exact(f.cell x c hc).1
structure Gs(F:List ag)(M:List Lc)(s:aj)(aK:List Lc)(s':aj):Prop where
 keep:∀b o,b∉foot M->b∉F->s.heap.get? b=some o->s'.heap.get? b=some o
 fresh:∀b,b∈foot aK->b∉foot M->s.heap.get? b=none
 pre:∀(i:Nat)(p:Lc),M[i]? =some p->aK[i]? =some p
 gens:s'.gens=s.gens
 os:s'.os=s.os
section
variable{X:Cx}{A:aM}{F N:List ag}{M aK:List Lc}{s s':aj}{v w:V}{u u':aa}{B ao:Mm}{h h':ay}{env:PySem.Env}{e e':Env}
theorem Gw.gs(g:Gw M s aK s'):Gs F M s aK s':=⟨λb o n Y e=>g.keep b o n e,g.fresh,g.pre,g.gens,g.os⟩
theorem Gs.gw(g:Gs [] M s aK s'):Gw M s aK s':=⟨λb o n e=>g.keep b o n (by simp) e,g.fresh,g.pre,g.gens,g.os⟩
theorem Gs.refl:Gs F M s M s:=Gw.refl.gs
theorem Gs.trans{az aN cI:List Lc}{aw s₂ cR:aj}(hF:∀b∈F,b∉foot aN)(live:∀b∈F,∃o,s₂.heap.get? b=some o)(l1:∀b∈F,∃o,aw.heap.get? b=some o)(a:Gs F az aw aN s₂)(b:Gs F aN s₂ cI cR):Gs F az aw cI cR:=by
 have old:∀b o,aw.heap.get? b=some o->b∉foot az->b∉foot aN:=λx o e n m=>by
  have:=a.fresh x m n;replace e:=this▸e;(injection e)
 refine⟨λx o n f e=>b.keep x o (old x o e n) f (a.keep x o n f e),λx m n=>?_,λi p e=>b.pre i p (a.pre i p e),b.gens.trans a.gens,b.os.trans a.os⟩
 by_cases q:x∈foot aN
 ·exact a.fresh x q n
 ·refine kZ (aw.heap.get? x) (λe=>?_) (λo e=>?_)
  ·rfl
  ·have:=b.fresh x m q
   by_cases f:x∈F
   ·refine bc (live x f) λo' e'=>?_;replace this:=e'▸this;(injection this)
   ·replace this:=(a.keep x o n f e)▸this;(injection this)
theorem Gs.hS(hF:∀b∈F,b∈N)(g:Gs F M s aK s'):eK (N++foot M) M s.heap (N++foot aK) aK s'.heap:=
 ⟨λb o n e=>g.keep b o (λm=>n (bD _ m)) (λm=>n (a0 _ (hF b m))) e,λb m n=>by
  rcases bp.mp m with m|m
  ·exact absurd (a0 _ m) n
  ·exact g.fresh b m λq=>n (bD _ q),g.pre⟩
theorem Rn.mono(f:Fe N env)(r:Rn X env e N M h)(P:eK (N++foot M) M h (N++foot aK) aK h')(k:∀b∈N,∀o,h.get? b=some o->h'.get? b=some o):Rn X env e N aK h':=by
 obtain⟨⟨m,h1,h2⟩,h3,h4⟩:=r;refine⟨(aQ m (h1.at (k _ f.loc)) (λx v a b c=>let ⟨u,d,q⟩:=h2 x v a b c;(aQ u d (VR.mono P v q)))),λx c hc=>?_,λx v a b c=>?_⟩
 ·refine a6 (h3 x c hc) λtb o ho hd=>?_;exact bA tb o (k c (f.Si x c hc).1 o ho) hd
 ·refine eQ λkk=>?_;refine bJ (h4 x v a b c) λc u hc pL q=>?_;refine aL pL λo ho hd=>?_;refine kk ?_;clear pL;exact dy c u hc (aQ o (k c (f.Si x c hc).1 o ho) hd) (VR.mono P v q)
theorem Rn.gw{I:List O}(f:Fe N env)(rd:R0 X I N M s.heap)(r:Rn X env e N M s.heap)(g:Gw M s aK s'):Rn X env e N aK s'.heap:=
 r.mono f g.hS λb hb o ho=>g.keep b o (λm=>rd.apart b m hb) ho
theorem R0.gone{I:List O}(r:R0 X I N M h){a:ag}(ha:a∈N):a∉foot M:=λm=>r.apart a m ha
theorem R0.chg{I:List O}(r:R0 X I N M h)(k:∀b o,b∉N->h.get? b=some o->h'.get? b=some o)(l:∀b∈N,∃o,h'.get? b=some o):R0 X I N M h':=by
 have P:eK (N++foot M) M h (N++foot M) M h':=⟨λb o n e=>k b o (λm=>n (a0 _ m)) e,λY m n=>absurd m n,λY Y e=>e⟩;refine⟨λb o e=>k b o (λm=>by have:=r.low b (a0 _ m);replace e:=this▸e;(injection e)) (r.base b o e),SR.gen P (λp hp b hb o e=>k b o (λm=>?_) e) r.bk,r.nodup,r.apart,r.low,l⟩;obtain⟨i,hi,ep⟩:=jP hp;exact r.apart b (dO (i:=i) (ah (eZ hi) (ah ep rfl)) hb) m
theorem R0.less{I:List O}{N':List ag}(r:R0 X I N' M h)(k:∀b∈N,b∈N'):R0 X I N M h:=by
 have P:eK (N'++foot M) M h (N++foot M) M h:=Ag λa m=>by
  rcases bp.mp m with m|m
  ·exact a0 _ (k a m)
  ·exact bD _ m
 exact⟨r.base,SR.gen P (λY Y Y Y Y e=>e) r.bk,r.nodup,λa m n=>r.apart a m (k a n),λa m=>r.low a (by
  rcases bp.mp m with m|m
  ·exact a0 _ (k a m)
  ·exact bD _ m),λa m=>r.live a (k a m)⟩
theorem mh{N':List ag}(k:∀b∈N,b∈N'):eK (N'++foot M) M h (N++foot M) M h:=Ag λa m=>by
  rcases bp.mp m with m|m
  ·exact a0 _ (k a m)
  ·exact bD _ m
theorem R0.add{I:List O}{L:List ag}(r:R0 X I N M h)(k:All h h')(hf:∀a∈L,h.get? a=none)(hl:∀a∈L,∃o,h'.get? a=some o):R0 X I (L++N) M h':=by
 have o9:∀a∈foot M,∃o,h.get? a=some o:=λa m=>by
  refine aL (fY.mp m) λp hp hb=>?_;exact SR.alive r.bk p hp a hb
 have P:eK (N++foot M) M h ((L++N)++foot M) M h':=⟨λb o Y e=>k b o e,λb m n=>by
  rcases bp.mp m with m|m
  ·rcases bp.mp m with m|m
   ·exact hf b m
   ·exact absurd (a0 _ m) n
  ·exact absurd (bD _ m) n,λY Y e=>e⟩
 refine⟨λb o e=>k b o (r.base b o e),SR.gen P (λY Y b Y o e=>k b o e) r.bk,r.nodup,λa m n=>?_,λa m=>?_,λa m=>?_⟩
 ·rcases bp.mp n with n|n
  ·refine bc (o9 a m) λo e=>?_;replace e:=(hf a n)▸e;(injection e)
  ·exact r.apart a m n
 ·rcases bp.mp m with m|m
  ·rcases bp.mp m with m|m
   ·refine kZ (X.base.get? a) (λe=>?_) (λo e=>?_)
    ·rfl
    ·have:=r.base a o e;replace this:=(hf a m)▸this;(injection this)
   ·exact r.low a (a0 _ m)
  ·exact r.low a (bD _ m)
 ·rcases bp.mp m with m|m
  ·exact hl a m
  ·refine bc (r.live a m) λo e=>?_;exact⟨o,k a o e⟩
theorem oF{L:List ag}(k:All h h')(hf:∀a∈L,h.get? a=none):eK (N++foot M) M h ((L++N)++foot M) M h':=⟨λb o Y e=>k b o e,λb m n=>by
  rcases bp.mp m with m|m
  ·rcases bp.mp m with m|m
   ·exact hf b m
   ·exact absurd (a0 _ m) n
  ·exact absurd (bD _ m) n,λY Y e=>e⟩
theorem rr{x:Str}{Q:Unit->aj->Prop}(f:Fe N env)(rd:R0 X B.bk N M s.heap)(rn:Rn X env e N M s.heap)(q:VR X s.heap (N++foot M) M v u)(hx:bz x=true)
  (hk:env.kindOf x=some .local∨env.kindOf x=some .cell)
  (h:∀s',s'.gens=s.gens->s'.os=s.os->(∀b o,b∉own env->s.heap.get? b=some o->s'.heap.get? b=some o)->R0 X B.bk N M s'.heap->Rn X env (eS e (idOf x) v) N M s'.heap->(env.kindOf x=some .local->∀b o,b≠env.locals->s.heap.get? b=some o->s'.heap.get? b=some o)->Q () s'):
  wpAny (model X.prog X.w) A (storeName env x u) Q E0 s:=by
 refine aL rn.ns λm h1 h2=>?_;have nm:∀y,bz y=true->y≠x->a8 (eS e (idOf x) v) (idOf y)=a8 e (idOf y):=λy hy n=>aG _ _ _ _ λq=>n (idOf_inj hx hy q).symm
 rcases hk with hk|hk
 ·refine wpAny_storeName_local hk h1 (λh' hn hs=>?_) (by refine ah f.fn ?_;rfl);have kp:∀b o,b∉N->s.heap.get? b=some o->h'.get? b=some o:=λb o n e=>by refine ah (hs.2 b (λq=>n (q▸f.loc))) ?_;exact e
  have P:eK (N++foot M) M s.heap (N++foot M) M h':=⟨λb o n e=>kp b o (λm=>n (a0 _ m)) e,λY m n=>absurd m n,λY Y e=>e⟩
  have lv:∀b∈N,∃o,h'.get? b=some o:=λb hb=>by
   by_cases q:b=env.locals
   ·refine Mi hn λo Y Y ho Y=>?_;clear hn;exact⟨o,by refine ah q ?_;exact ho⟩
   ·refine bc (rd.live b hb) λo e=>?_;exact⟨o,by refine ah (hs.2 b q) ?_;exact e⟩
  have cellK:∀y c,env.cells.lookup y=some c->∀o,s.heap.get? c=some o->h'.get? c=some o:=λy c hc o ho=>by refine ah (hs.2 c (f.Si y c hc).2) ?_;exact ho
  refine h _ rfl rfl (λb o n e=>by show h'.get? b=some o;refine ah (hs.2 b (λq=>n (by rw[q];exact aW))) ?_;exact e) (rd.chg kp lv) ⟨(aQ _ hn (λy v' hy hl F7=>?_)),λy c hc=>?_,λy v' hy hl F7=>?_⟩ (λY b o n e=>by show h'.get? b=some o;refine ah (hs.2 b n) ?_;exact e)
  ·by_cases IG:y=x
   ·subst IG;rw[bf] at hl;refine DS hl ?_;exact aQ u (if_pos rfl) (VR.mono P _ q)
   ·replace hl:=(nm y hy IG)▸hl;refine aL (h2 y v' hy hl F7) λw hw qw=>?_;exact⟨w,by refine ah (if_neg IG) ?_;exact hw,VR.mono P _ qw⟩
  ·refine a6 (rn.cl y c hc) λtb o ho hd=>?_;exact bA tb o (cellK y c hc o ho) hd
  ·have IG:y≠x:=λq=>by subst q;replace F7:=hk▸F7;rcases F7 with z|z<;>cases z
   replace hl:=(nm y hy IG)▸hl;refine bJ (rn.cv y v' hy hl F7) λc w hc IH qw=>?_;refine aL IH λo ho hd=>?_;clear IH;exact dy c w hc (aQ o (cellK y c hc o ho) hd) (VR.mono P _ qw)
 ·refine bc (f.P_ x hk) λc hc=>?_;refine bc (rn.cl x c hc) λtb XT=>?_;refine wpAny_storeName_cell f.fn hk hc XT (λh' hn hs=>?_);have kp:∀b o,b∉N->s.heap.get? b=some o->h'.get? b=some o:=λb o n e=>by refine ah (hs.2 b (λq=>n (q▸(f.Si x c hc).1))) ?_;exact e
  have P:eK (N++foot M) M s.heap (N++foot M) M h':=⟨λb o n e=>kp b o (λm=>n (a0 _ m)) e,λY m n=>absurd m n,λY Y e=>e⟩
  have lv:∀b∈N,∃o,h'.get? b=some o:=λb hb=>by
   by_cases q:b=c
   ·refine aL hn λo ho Y=>?_;clear hn;exact⟨o,by refine ah q ?_;exact ho⟩
   ·refine bc (rd.live b hb) λo e=>?_;exact⟨o,by refine ah (hs.2 b q) ?_;exact e⟩
  refine h _ rfl rfl (λb o n e=>by show h'.get? b=some o;refine ah (hs.2 b (λq=>n (by rw[q];exact MW f hc))) ?_;exact e) (rd.chg kp lv) ⟨(aQ m (h1.at (λo ho=>by refine ah (hs.2 _ (λq=>(f.Si x c hc).2 q.symm)) ?_;exact ho)) (λy v' hy hl F7=>?_)),λy d hd=>?_,λy v' hy hl F7=>?_⟩ (λq=>by replace q:=hk▸q;cases q)
  ·have IG:y≠x:=λq=>by subst q;replace F7:=hk▸F7;cases F7
   replace hl:=(nm y hy IG)▸hl;refine aL (h2 y v' hy hl F7) λw hw qw=>?_;exact aQ w hw (VR.mono P _ qw)
  ·by_cases q:d=c
   ·subst q;exact⟨_,hn⟩
   ·refine bc (rn.cl y d hd) λabt XU=>?_;exact⟨abt,XU.sameBut hs q⟩
  ·by_cases IG:y=x
   ·subst IG;rw[bf] at hl;refine DS hl ?_;exact dy c u hc hn (VR.mono P _ q)
   ·replace hl:=(nm y hy IG)▸hl;refine bJ (rn.cv y v' hy hl F7) λd w hd hw qw=>?_;exact dy d w hd (hw.sameBut hs (λq=>IG (f.XR y x c (q▸hd) hc))) (VR.mono P _ qw)
theorem II{x:Str}{Q:aa->aj->Prop}{acW:aa->aj->Prop}(f:Fe N env)(rn:Rn X env e N M s.heap)(hx:bz x=true)(hl:a8 e (idOf x)=.ok v)
  (hk:env.kindOf x=some .local∨env.kindOf x=some .cell∨env.kindOf x=some .free) (hc:(x==("__classdict__":Str))=false) (h:∀u,VR X s.heap (N++foot M) M v u->Q u s):
  wpAny (model X.prog X.w) A (loadName env x) Q acW s:=by
 rcases hk with hk|hk|hk
 ·refine aL rn.ns λm h1 h2=>?_;refine aL (h2 x v hx hl hk) λu hu q=>?_;exact wpAny_loadName_local f.fn hk h1 hu (h u q)
 ·refine bJ (rn.cv x v hx hl (.inl hk)) λc u h1 h2 q=>?_;exact wpAny_loadName_cell f.fn hk h1 h2 (h u q)
 ·refine bJ (rn.cv x v hx hl (.inr hk)) λc u h1 h2 q=>?_;exact wpAny_loadName_free f.fn hk h1 h2 (h u q) hc
end
set_option backward.match.sparseCases false
noncomputable abbrev Nm:=List (Str×NameKind)
noncomputable def Rm(n:Nat)(A:aM):Prop:=A.handled=none/\A.units+60+40 * n<cLine/\A.depth+10+6 * n<recursionLimit
noncomputable def Rq(n:Nat)(A:aM):Prop:=A.handled=none/\A.units+50+40 * n<cLine/\A.depth+6+6 * n<recursionLimit
theorem Rm.rq{n:Nat}{A:aM}(r:Rm n A):Rq n A:=⟨r.1,by have:=r.2.1;omega,by have:=r.2.2;omega⟩
theorem Rm.rl{n:Nat}{A:aM}(r:Rm n A):Rl A:=⟨r.1,by have:=r.2.1;omega⟩
set_option backward.match.sparseCases true in
noncomputable def KS(X:Cx)(n:Nat)(K:Kc):Prop:=∀f l B x ao,K f l B=.ok x ao->Ok ao->Ok B/\∀A N M s us,Rq n A->Rd X N M s B->Vl X N M s l us->codeAny (model X.prog X.w) A (.call (.ref (X.nk f)) ⟨us,[]⟩) (λr s'=>match r with|.ok (.ret v)=>Pe X N M s x ao v s'|.ok _=>False|.error e=>E0 e s') s
noncomputable def Es(X:Cx)(n:Nat)(nm:Nm)(e:PySem.Expr)(c:C):Prop:=∀K,KS X n K->∀E B x ao,c K E B=.ok x ao->Ok ao->Ok B/\
 ∀env A N M s,env.scope.names=nm->Rm n A->Fe N env->Rd X N M s B->Rn X env E N M s.heap->wpAny (model X.prog X.w) A (eval e env) (Pe X N M s x ao) E0 s
noncomputable def PeL(X:Cx)(N:List ag)(M:List Lc)(s:aj)(l:V)(B:Mm):List aa->aj->Prop:=
 λus s'=>∃aK,Gw M s aK s'/\R0 X B.bk N aK s'.heap/\VL X s'.heap (N++foot aK) aK l us
noncomputable def fB:PySem.Expr->Bool|.Starred .. =>false|.Slice .. =>false|.Set .. =>false|_=>true
theorem k8{e:PySem.Expr}{r:List PySem.Expr}{env:PySem.Env}(h:fB e=true):starEach (e::r) env=(false,eval e env)::starEach r env:=by
 cases e<;>first|rfl|exact absurd h nT
noncomputable def El(X:Cx)(n:Nat)(nm:Nm)(es:List PySem.Expr)(c:C):Prop:=∀K,KS X n K->∀E B l ao,c K E B=.ok l ao->Ok ao->Ok B/\
 ∀env A N M s pos,env.scope.names=nm->Rm n A->Fe N env->Rd X N M s B->Rn X env E N M s.heap->wpAny (model X.prog X.w) A (spliced (backTo pos (starEach es env))) (PeL X N M s l ao) E0 s
noncomputable def Ts(X:Cx)(n:Nat)(nm:Nm)(e:PySem.Expr)(c:C):Prop:=∀K,KS X n K->∀E B b ao,kE (c K E B)=.ok b ao->Ok ao->Ok B/\
 ∀env A N M s,env.scope.names=nm->Rm n A->Fe N env->Rd X N M s B->Rn X env E N M s.heap->wpAny (model X.prog X.w) A (isTrue e env (eval e env)) (λt s'=>t=b/\∃aK,Gw M s aK s'/\R0 X ao.bk N aK s'.heap) E0 s
theorem a7{r:RE}{k:V->Mm->RE}{x:V}{ao:Mm}(e:cw r k=.ok x ao):∃v B,r=.ok v B/\k v B=.ok x ao:=by
 induction r with
 |no=>exact absurd e nE
 |ok v B=>exact bA v B rfl e
theorem rt{r:RB}{a b:Mm->RE}{x:V}{ao:Mm}(e:xQ r a b=.ok x ao):∃t B,r=.ok t B/\(bif t then a B else b B)=.ok x ao:=by
 induction r with
 |no=>exact absurd e nE
 |ok t B=>induction t<;>exact bA _ B rfl e
theorem oG{r:RB}{x:V}{ao:Mm}(e:u7 r=.ok x ao):∃b,r=.ok b ao/\x=.bool b:=by
 induction r with
 |no=>exact absurd e nE
 |ok b B=>refine DQ e ?_;exact aQ b rfl rfl
theorem CD{o:OV}{B ao:Mm}{x:V}(e:ze o B=.ok x ao):o=.ok x/\ao=B:=by
 induction o with
 |no=>exact absurd e nE
 |ok v=>refine DQ e ?_;exact⟨rfl,rfl⟩
section
variable{X:Cx}{n:Nat}{nm:Nm}{A:aM}{N:List ag}{M aK:List Lc}{s s' ru:aj}{v w x:V}{u u':aa}{B ao μ₁:Mm}{env:PySem.Env}{E:Env}
theorem Pe.trans(g:Gw M s aK s')(p:Pe X N aK s' x B u ru):Pe X N M s x B u ru:=by
 refine bQ (p) λIJ IK Ee XW=>?_;exact bS IJ (g.trans IK) Ee XW
theorem Pe.go{H:Type}{t:Sem H}{Q:aa->aj->Prop}{ev:Sem aa}(f:Fe N env)(rd:Rd X N M s B)(rn:Rn X env E N M s.heap)(h:wpAny (model X.prog X.w) A ev (Pe X N M s v μ₁) E0 s)
  (k:∀u aK s',Gw M s aK s'->Rd X N aK s' μ₁->Rn X env E N aK s'.heap->Vr X N aK s' v u->Q u s'):wpAny (model X.prog X.w) A ev Q E0 s:=
 aA h (λu s' ⟨aK,g,r,q⟩=>k u aK s' g r (rn.gw f rd g) q) λY Y e=>e
theorem Vr.up(g:Gw M s aK s')(q:Vr X N M s v u):Vr X N aK s' v u:=VR.mono g.hS v q
theorem Vl.up{l:V}{us:List aa}(g:Gw M s aK s')(q:Vl X N M s l us):Vl X N aK s' l us:=VL.mono g.hS l q
theorem Sj:El X n nm [] ck:=λK hK E B l ao e h=>by
 injection e with g1 g2;subst g1;subst g2;exact⟨h,λenv A N M s pos Y Y f rd rn=>spliced_nil (bS M Gw.refl rd rfl)⟩
theorem MX{e:PySem.Expr}{es:List PySem.Expr}{a r:C}(he:Es X n nm e a)(hr:El X n nm es r)(hp:fB e=true):El X n nm (e::es) (aH a r):=λK hK E B l ao h o=>by
 refine a6 (a7 h) λv μ₁ h1 h2=>?_;refine a6 (a7 h2) λt aE h2 h3=>?_;revert o;refine DQ h3 ?_;intro o;refine aD (hr K hK E μ₁ t _ h2 o) λo1 g2=>?_;have zp5:=he K hK E B v μ₁ h1 o1;refine⟨zp5.1,λenv A N M s pos hn rm f rd rn=>?_⟩;refine ah (k8 hp) ?_;refine spliced_cons (Pe.go (H:=aa) (t:=eval e env) f rd rn (zp5.2 env A N M s hn rm f rd rn) λu az aw k1 cj fu q1=>?_);refine aA (g2 env A N az aw pos hn rm f cj fu) (λus s₂ XX=>?_) λY Y e=>e;refine bQ XX λaN k2 eh q2=>?_;clear XX;exact⟨aN,k1.trans k2,eh,u,us,rfl,q1.up k2,q2⟩
theorem Ef{l r:PySem.Expr}{a b:C}{K:Kc}(hK:KS X n K)(ha:Es X n nm l a)(hb:Es X n nm r b){k:V->V->Mm->RE}(e:(cw (a K E B) λv B=>cw (b K E B) (k v))=.ok x ao)(h:∀v w aE,k v w aE=.ok x ao->Ok aE):
  Ok B/\∃v w aE,k v w aE=.ok x ao/\∀env A N M s(Q:aa->aj->Prop)(t:aa->aa->Sem aa),env.scope.names=nm->Rm n A->Fe N env->Rd X N M s B->Rn X env E N M s.heap->
   (∀u u' aN s₂,Gw M s aN s₂->Rd X N aN s₂ aE->Rn X env E N aN s₂.heap->Vr X N aN s₂ v u->Vr X N aN s₂ w u'->wpAny (model X.prog X.w) A (t u u') Q E0 s₂)->
   wpAny (model X.prog X.w) A (eval l env) (λu aw=>wpAny (model X.prog X.w) A (eval r env) (λu' s₂=>wpAny (model X.prog X.w) A (t u u') Q E0 s₂) E0 aw) E0 s:=by
 refine eQ λkk=>?_;refine a6 (a7 e) λv μ₁ h1 h2=>?_;refine a6 (a7 h2) λw aE IL Eg=>?_;refine kk ?_;have zp8:=hb K hK E μ₁ w aE IL (h v w aE Eg);have zp9:=ha K hK E B v μ₁ h1 zp8.1;refine⟨zp9.1,v,w,aE,Eg,λenv A N M s Q t hn rm f rd rn fin=>?_⟩;refine Pe.go (H:=aa) (t:=eval l env) f rd rn (zp9.2 env A N M s hn rm f rd rn) λu az aw k1 cj fu q1=>?_;refine Pe.go (H:=aa) (t:=eval r env) f cj fu (zp8.2 env A N az aw hn rm f cj fu) λu' aN s₂ k2 eh gP q2=>?_;exact fin u u' aN s₂ (k1.trans k2) eh gP (q1.up k2) q2
theorem Sk{l r:PySem.Expr}{a b:C}{op:hV}{pos:Pos}(ha:Es X n nm l a)(hb:Es X n nm r b):Es X n nm (.BinOp l (BS op) r pos) (et op a b):=λK hK E B x ao e o=>by
 obtain⟨o0,v,w,aE,h3,g⟩:=Ef hK ha hb (k:=rY op) e λv w aE h3=>(Ie (X:=X) x ao h3 o).1;refine⟨o0,λenv A N M s hn rm f rd rn=>wpAny_BinOp (g env A N M s _ _ hn rm f rd rn λu u' aN s₂ k eh Y q1 q2=>?_)⟩;exact aA ((Ie (X:=X) x ao h3 o).2 A N aN s₂ u u' rm.rl eh q1 q2) (λY Y p=>p.trans k) λY Y e=>e
theorem mQ{op:CmpOp}{r:PySem.Expr}(h:fB r=true):behindInMarks op r=false:=by cases r<;>first|rfl|exact absurd h nT
theorem Sm{l r:PySem.Expr}{a b:C}{op:xg}{pos:Pos}(ha:Es X n nm l a)(hb:Es X n nm r b)(hp:fB r=true):Es X n nm (.Compare l [PX op] [r] pos) (gd op a b):=λK hK E B x ao e o=>by
 have inv:∀v w aE,u_ op v w aE=.ok x ao->∃c,fy op v w aE=.ok c ao/\x=.bool c:=λv w aE h=>oG h;refine eQ λkk=>?_;obtain⟨o0,v,w,aE,h3,g⟩:=Ef hK ha hb (k:=u_ op) e λv w aE h3=>by obtain⟨c,hc,_⟩:=inv v w aE h3;exact(g9 (X:=X) c ao hc o).1
 obtain⟨c,hc,rfl⟩:=inv v w aE h3;refine kk ?_;have XY:=g9 (X:=X) c ao hc o;refine⟨o0,λenv A N M s hn rm f rd rn=>wpAny_Compare1 (g env A N M s _ _ hn rm f rd rn λu u' aN s₂ k eh Y q1 q2=>?_) (mQ hp)⟩;exact XY.2.2 A N aN s₂ u u' _ rm.rl eh q1 q2 λkk=>Pe.trans k (Pe.same (v:=.bool c) (u:=.bool c) eh XY.2.1 rfl rfl)
theorem AG{v:V}{b:Bool}(e:qW v B=.ok b ao)(h:Ok ao):Ok B/\ao.bk=B.bk/\∀{h:ay}{Z:List ag}{u:aa},VR X h Z M v u->u=.bool b:=by
 induction v using V.casesOn with
 |bool c=>refine rRB e ?_;exact bL h rfl (λq=>q)
 |zZ c=>
  refine c_ (vu (p:=c) (b:=b) e h) λXZ o st=>?_;subst XZ;exact bL o st (λq=>q)
 |_=>exact xl e
theorem pd{r:RE}{b:Bool}(e:kE r=.ok b ao):∃v B,r=.ok v B/\qW v B=.ok b ao:=by
 induction r with
 |no=>exact absurd e nB
 |ok v B=>exact bA v B rfl e
theorem tA{e:PySem.Expr}{c:C}{K:Kc}{b:Bool}(hK:KS X n K)(hc:Es X n nm e c)(h:kE (c K E B)=.ok b ao)(o:Ok ao):Ok B/\∀env A N M s,env.scope.names=nm->Rm n A->Fe N env->Rd X N M s B->Rn X env E N M s.heap->
  wpAny (model X.prog X.w) A (eval e env) (λu s'=>u=.bool b/\∃aK,Gw M s aK s'/\R0 X ao.bk N aK s'.heap) E0 s:=by
 refine a6 (pd h) λv μ₁ CE yd=>?_;have X0:=AG (X:=X) (M:=[]) yd o;have X1:=hc K hK E B v μ₁ CE X0.1;refine⟨X1.1,λenv A N M s hn rm f rd rn=>aA (X1.2 env A N M s hn rm f rd rn) (λu s' ⟨aK,k,mx,q⟩=>⟨(AG (X:=X) yd o).2.2 q,aK,k,by refine ah X0.2.1 ?_;exact mx⟩) λY Y e=>e⟩
theorem Ts.plain{e:PySem.Expr}{c:C}(hc:Es X n nm e c)(he:∀env whole,isTrue e env whole=(do let v←whole;standAt e.pos;holding [v] (truthy v))):Ts X n nm e c:=λK hK E B b ao h o=>by
 refine aD (tA hK hc h o) λo0 g=>?_;exact⟨o0,λenv A N M s hn rm f rd rn=>isTrue_plain (aA (g env A N M s hn rm f rd rn) (λu s' ⟨hu,z⟩=>by refine ah hu ?_;exact iT ⟨rfl,z⟩) λY Y e=>e) (he env _)⟩
theorem Sn{l r:PySem.Expr}{a b:C}{op:xg}{pos:Pos}(ha:Es X n nm l a)(hb:Es X n nm r b)(hp:fB r=true):Ts X n nm (.Compare l [PX op] [r] pos) (gd op a b):=λK hK E B t ao e o=>by
 refine a6 (pd e) λx dp e h4=>?_;have inv:∀v w aE,u_ op v w aE=.ok x dp->∃c,fy op v w aE=.ok c dp/\x=.bool c:=λv w aE h=>oG h;refine a6 (a7 e) λv μ₁ h1 h2=>?_;refine a6 (a7 h2) λw aE h2' h3=>?_;refine aL (inv v w aE h3) λc hc mP=>?_;subst mP;revert o;refine iRB h4 ?_;intro o;obtain⟨o0,v,w,aE,h3,g⟩:=Ef hK ha hb (k:=u_ op) e λv w aE h3=>by obtain⟨c,hc,_⟩:=inv v w aE h3;exact(g9 (X:=X) c _ hc o).1
 refine Exists.elim (inv v w aE h3) λc' X2=>?_
 cases X2.2
 have X3:=g9 (X:=X) _ _ X2.1 o;refine⟨o0,λenv A N M s hn rm f rd rn=>wpAny_isTrue_Compare1 (aA (g env A N M s (λc cR=>wpAny (model X.prog X.w) A (truthy c) (λt s'=>t=_/\∃aK,Gw M s aK s'/\R0 X _ N aK s'.heap) E0 cR) _ hn rm f rd rn λu u' aN s₂ k eh Y q1 q2=>?_) (λY Y e=>e) λY Y e=>e) (mQ hp)⟩;exact X3.2.2 A N aN s₂ u u' _ rm.rl eh q1 q2 λkk=>iT ⟨rfl,aN,k.trans ⟨λY Y Y e=>e,λY m n=>absurd m n,λY Y e=>e,rfl,rfl⟩,by refine ah X3.2.1 ?_;exact eh⟩
theorem IM{v:V}{e:PySem.Expr}(h:∀env A N M s(Q:aa->aj->Prop),env.scope.names=nm->Fe N env->(∀b o,X.base.get? b=some o->s.heap.get? b=some o)->(∀a∈N++foot M,X.base.get? a=none)->(∀u k,VR X s.heap (N++foot M) M v u->Q u {s with toks:=k})->wpAny (model X.prog X.w) A (eval e env) Q E0 s):Es X n nm e (cC v):=λK hK E B x ao e o=>by
 revert o;refine DQ e ?_;intro o;exact⟨o,λenv A N M s hn rm f rd rn=>h env A N M s _ hn f rd.base rd.low λu k q=>Pe.same rd rfl q rfl⟩
theorem X4{x:Str}{pos:Pos}(hx:bz x=true)(hd:(x==("__debug__":Str))=false)(hc:(x==("__classdict__":Str))=false)(hk:nm.lookup x=some .local∨nm.lookup x=some .cell∨nm.lookup x=some .free):Es X n nm (.Name x pos) (cV (idOf x)):=λK hK E B y ao e o=>by
 refine aD (CD (o:=a8 E (idOf x)) e) λhl Cr=>?_;subst Cr;exact⟨o,λenv A N M s hn rm f rd rn=>wpAny_Name (II f rn hx hl (by replace hk:=iL hn▸hk;exact hk) hc λu q=>Pe.same rd rfl q rfl) hd⟩
theorem So{e:PySem.Expr}{a:C}{pos:Pos}(ha:Es X n nm e a):Es X n nm (.UnaryOp .USub e pos) (L_ a):=λK hK E B x ao h o=>by
 refine eQ λkk=>?_;refine a6 (a7 h) λv μ₁ Sp Sr=>?_;refine aD (PY (X:=X) x ao Sr o) λo1 g2=>?_;refine aD (ha K hK E B v μ₁ Sp o1) λo0 g1=>?_;refine kk ?_;refine⟨o0,λenv A N M s hn rm f rd rn=>UnaryOp_ (Pe.go (H:=aa) (t:=eval e env) f rd rn (g1 env A N M s hn rm f rd rn) λu az aw k1 cj fu q1=>?_)⟩;exact aA (g2 A N az aw u rm.rl cj q1) (λY Y p=>p.trans k1) λY Y e=>e
theorem Ei{a:C}{K:Kc}(h:xR a K E B=.ok x ao):∃b,kE (a K E B)=.ok b ao/\x=.bool (!b):=by
 refine aL (oG h) λb Su Sv=>?_;exact⟨!b,tj Su,by rw[nC];exact Sv⟩
theorem Sw{e:PySem.Expr}{a:C}{pos:Pos}(ha:Es X n nm e a):Es X n nm (.UnaryOp .Not e pos) (xR a):=λK hK E B x ao h o=>by
 refine aL (Ei h) λb h1 pZ=>?_;subst pZ;refine aD (tA hK ha h1 o) λo0 g=>?_;refine⟨o0,λenv A N M s hn rm f rd rn=>UnaryOp_ (aA (g env A N M s hn rm f rd rn) (λu s' abu=>?_) λY Y e=>e)⟩;obtain⟨hu,aK,k,mx⟩:=abu;refine ah hu ?_;exact not_of (iT (bS aK k mx rfl))
theorem Sy{e:PySem.Expr}{a:C}{pos:Pos}(ha:Ts X n nm e a):Ts X n nm (.UnaryOp .Not e pos) (xR a):=λK hK E B t ao h o=>by
 refine a6 (pd h) λx μ₁ h h2=>?_;refine aL (Ei h) λb h1 Sz=>?_;subst Sz;revert o;refine iRB h2 ?_;intro o;refine aD (ha K hK E B b _ h1 o) λo0 g=>?_;refine⟨o0,λenv A N M s hn rm f rd rn=>isTrue_not (aA (g env A N M s hn rm f rd rn) (λu s' X5=>?_) λY Y e=>e)⟩;refine aD X5 λhu z=>?_;clear X5;refine ah hu ?_;exact⟨rfl,z⟩
theorem Gw.tok(k:Nat):Gw M s M {s with toks:=k}:=⟨λY Y Y e=>e,λY m n=>absurd m n,λY Y e=>e,rfl,rfl⟩
theorem SA{t a b:PySem.Expr}{c d e:C}{pos:Pos}(hc:Ts X n nm t c)(hd:Es X n nm a d)(he:Es X n nm b e):Es X n nm (.IfExp t a b pos) (w0 c d e):=λK hK E B x ao h o=>by
 refine eQ λkk=>?_;refine a6 (rt h) λy μ₁ h1 h2=>?_
 have key:Ok μ₁/\∀env A N M s,env.scope.names=nm->Rm n A->Fe N env->Rd X N M s μ₁->Rn X env E N M s.heap->wpAny (model X.prog X.w) A (bif y then eval a env else eval b env) (Pe X N M s x ao) E0 s:=by
  cases y
  ·exact he K hK E μ₁ x ao h2 o
  ·exact hd K hK E μ₁ x ao h2 o
 refine aD (hc K hK E B y μ₁ h1 key.1) λo0 g=>?_;refine kk ?_;refine⟨o0,λenv A N M s hn rm f rd rn=>IfExp_ (aA (g env A N M s hn rm f rd rn) (λu s' pD=>?_) λY Y e=>e)⟩;obtain⟨hu,aK,k,mx⟩:=pD
 have:=aA (key.2 env A N aK s' hn rm f mx (rn.gw f rd k)) (λY Y p=>p.trans k) λY Y e=>e;refine ah hu ?_
 induction y<;>exact this
theorem SD{t a b:PySem.Expr}{c d e:C}{pos:Pos}(hc:Ts X n nm t c)(hd:Ts X n nm a d)(he:Ts X n nm b e):Ts X n nm (.IfExp t a b pos) (w0 c d e):=λK hK E B z ao h o=>by
 refine eQ λkk=>?_;refine a6 (pd h) λx aE SE IP=>?_;refine a6 (rt SE) λy μ₁ h1 h2=>?_
 have key:Ok μ₁/\∀env A N M s,env.scope.names=nm->Rm n A->Fe N env->Rd X N M s μ₁->Rn X env E N M s.heap->wpAny (model X.prog X.w) A (bif y then isTrue a env (eval a env) else isTrue b env (eval b env)) (λt s'=>t=z/\∃aK,Gw M s aK s'/\R0 X ao.bk N aK s'.heap) E0 s:=by
  cases y
  ·exact he K hK E μ₁ z ao (by show kE (e K E μ₁)=_;refine ah (show e K E μ₁=.ok x aE from h2) ?_;exact IP) o
  ·exact hd K hK E μ₁ z ao (by show kE (d K E μ₁)=_;refine ah (show d K E μ₁=.ok x aE from h2) ?_;exact IP) o
 refine aD (hc K hK E B y μ₁ h1 key.1) λo0 g=>?_;refine kk ?_;refine⟨o0,λenv A N M s hn rm f rd rn=>isTrue_IfExp (aA (g env A N M s hn rm f rd rn) (λu s' vP=>?_) λY Y e=>e)⟩;obtain⟨hu,aK,k,mx⟩:=vP
 have:=aA (key.2 env A N aK s' hn rm f mx (rn.gw f rd k)) (λY Y ⟨p,IJ,k',r⟩=>(⟨p,IJ,k.trans k',r⟩:_=z/\∃aK,Gw M s aK _/\R0 X ao.bk N aK _)) λY Y e=>e;refine ah hu ?_
 induction y<;>exact this
end
set_option tactic.hygienic true
set_option backward.match.sparseCases true
section
variable{X:Cx}{n:Nat}{nm:Nm}{A:aM}{N:List ag}{M aK:List Lc}{s s' ru:aj}{v w x:V}{u u':aa}{B ao μ₁:Mm}{env:PySem.Env}{E:Env}
noncomputable def cJn(b0:Bool)(a b:C):C:=λK e B=>xQ (kE (a K e B)) (λB=>bif b0 then RE.ok (V.bool true) B else b K e B) (λB=>bif b0 then b K e B else RE.ok (V.bool false) B)
noncomputable def IQ(b0:Bool):PySem.BoolOp:=bif b0 then .Or else .And
theorem AH{b0:Bool}{pE AI:PySem.Expr}{rest:List PySem.Expr}{pos:Pos}{acW:aa->aj->Prop}{acV:Model}{Q:aa->aj->Prop}
  (h:wpAny acV A (eval pE env) (λv aw=>wpAny acV A (truthy v) (λc s₂=>if c=b0 then Q v s₂ else wpAny acV A (eval (.BoolOp (IQ b0) (AI::rest) pos) env) Q acW s₂) acW aw) acW s):
  wpAny acV A (eval (.BoolOp (IQ b0) (pE::AI::rest) pos) env) Q acW s:=by
 cases b0
 ·exact BoolOp_and (aA h (λv aw jj=>aA jj (λc s₂ fJ=>by induction c<;>exact fJ) λY Y e=>e) λY Y e=>e)
 ·exact BoolOp_or (aA h (λv aw jj=>aA jj (λc s₂ fJ=>by induction c<;>exact fJ) λY Y e=>e) λY Y e=>e)
theorem vQ{b0:Bool}{pE:PySem.Expr}{rest:List PySem.Expr}{pos:Pos}{whole:Sem aa}{acW:aa->aj->Prop}{acV:Model}{Q:Bool->aj->Prop}
  (h:wpAny acV A (isTrue pE env (eval pE env)) (λc s₂=>if c=b0 then Q b0 s₂ else wpAny acV A (isTrue (.BoolOp (IQ b0) rest pos) env whole) Q acW s₂) acW s):
  wpAny acV A (isTrue (.BoolOp (IQ b0) (pE::rest) pos) env whole) Q acW s:=by
 cases b0
 ·exact isTrue_and (aA h (λc s₂ fJ=>by induction c<;>exact fJ) λY Y e=>e)
 ·exact isTrue_or (aA h (λc s₂ fJ=>by induction c<;>exact fJ) λY Y e=>e)
theorem IS{b0:Bool}{a b:C}{K:Kc}(h:cJn b0 a b K E B=.ok x ao):∃t μ₁,kE (a K E B)=.ok t μ₁/\(if t=b0 then RE.ok (V.bool b0) μ₁ else b K E μ₁)=.ok x ao:=by
 refine a6 (rt h) λt μ₁ h1 h2=>?_;refine(bA t μ₁ h1 ?_)
 induction t<;>induction b0<;>exact h2
theorem X6{b0:Bool}{pE AI:PySem.Expr}{rest:List PySem.Expr}{a b:C}{pos:Pos}(ha:Es X n nm pE a)(hb:Es X n nm (.BoolOp (IQ b0) (AI::rest) pos) b):Es X n nm (.BoolOp (IQ b0) (pE::AI::rest) pos) (cJn b0 a b):=λK hK E B x ao h o=>by
 refine a6 (IS h) λt μ₁ h1 h2=>?_
 by_cases ht:t=b0
 ·replace h2:=(if_pos ht)▸h2;revert o;refine DQ h2 ?_;intro o;refine aD (tA hK ha h1 o) λo0 g=>?_;refine⟨o0,λenv A N M s hn rm f rd rn=>AH (aA (g env A N M s hn rm f rd rn) (λu s' pD=>?_) λY Y e=>e)⟩;refine eQ λkk=>?_;refine aD pD λhu kN=>?_;clear pD;refine aL kN λaK k mx=>?_;refine kk ?_;clear kN;refine ah hu ?_;refine iT ?_;refine ah (if_pos ht) (ah ht ?_);exact bS aK k mx rfl
 ·replace h2:=(if_neg ht)▸h2;refine aD (hb K hK E μ₁ x ao h2 o) λo1 g1=>?_;refine aD (tA hK ha h1 o1) λo0 g=>?_;refine⟨o0,λenv A N M s hn rm f rd rn=>AH (aA (g env A N M s hn rm f rd rn) (λu s' vP=>?_) λY Y e=>e)⟩;refine aD vP λhu kO=>?_;clear vP;refine aL kO λaK k mx=>?_;clear kO;refine ah hu ?_;refine iT ?_;refine ah (if_neg ht) ?_;exact aA (g1 env A N aK s' hn rm f mx (rn.gw f rd k)) (λY Y p=>p.trans k) λY Y e=>e
theorem X7{b0:Bool}{pE:PySem.Expr}{rest:List PySem.Expr}{a b:C}{pos:Pos}(ha:Ts X n nm pE a)(hb:Ts X n nm (.BoolOp (IQ b0) rest pos) b):Ts X n nm (.BoolOp (IQ b0) (pE::rest) pos) (cJn b0 a b):=λK hK E B z ao h o=>by
 refine a6 (pd h) λx aE h h3=>?_;refine a6 (IS h) λt μ₁ h1 h2=>?_
 by_cases ht:t=b0
 ·replace h2:=(if_pos ht)▸h2;injection h2 with g1 g2;subst g1;subst g2
  cases h3
  refine aD (ha K hK E B t _ h1 o) λo0 g=>?_;refine⟨o0,λenv A N M s hn rm f rd rn=>vQ (aA (g env A N M s hn rm f rd rn) (λu s' SF=>?_) λY Y e=>e)⟩;refine aD SF λhu zz=>?_;clear SF;refine ah hu (ah (if_pos ht) ?_);exact⟨rfl,zz⟩
 ·replace h2:=(if_neg ht)▸h2;refine aD (hb K hK E μ₁ z ao (by refine ah h2 ?_;exact h3) o) λo1 g1=>?_;refine aD (ha K hK E B t _ h1 o1) λo0 g=>?_;refine⟨o0,λenv A N M s hn rm f rd rn=>vQ (aA (g env A N M s hn rm f rd rn) (λu s' X8=>?_) λY Y e=>e)⟩;refine eQ λkk=>?_;refine aD X8 λhu AJ=>?_;clear X8;refine aL AJ λaK k mx=>?_;refine kk ?_;clear AJ;refine ah hu (ah (if_neg ht) ?_);exact aA (g1 env A N aK s' hn rm f mx (rn.gw f rd k)) (λY Y ⟨p,IJ,k',r⟩=>⟨p,IJ,k.trans k',r⟩) λY Y e=>e
theorem SG{b0:Bool}{e:PySem.Expr}{a:C}{pos:Pos}(ha:Ts X n nm e a):Ts X n nm (.BoolOp (IQ b0) [e] pos) a:=λK hK E B z ao h o=>by
 refine aD (ha K hK E B z ao h o) λo0 g=>?_;refine⟨o0,λenv A N M s hn rm f rd rn=>vQ (aA (g env A N M s hn rm f rd rn) (λu s' X9=>?_) λY Y e=>e)⟩;refine aD X9 λhu zz=>?_;clear X9
 by_cases ht:u=b0
 ·refine ah (if_pos ht) ?_;exact⟨by exact eV hu (ah ht rfl),zz⟩
 ·refine ah (if_neg ht) ?_
  have:(!b0)=z:=by induction u<;>induction b0<;>induction z<;>simp_all
  cases b0
  ·exact isTrue_and_nil ⟨this,zz⟩
  ·exact isTrue_or_nil ⟨this,zz⟩
theorem SH{b0:Bool}{e:PySem.Expr}{a:C}{pos:Pos}(ha:Es X n nm e a):Es X n nm (.BoolOp (IQ b0) [e] pos) a:=λK hK E B x ao h o=>ha K hK E B x ao h o
noncomputable def slA(slice:PySem.Expr)(o i:aa):List aa:=by
 cases slice
 case Slice a b c p=>exact @Option.rec PySem.Expr (λY=>List aa) [i,o] (λY=>[o,i]) c
 all_goals exact [o,i]
theorem subs(slice:PySem.Expr)(o i:aa):subscripted slice false o i=operate (slA slice o i) (getItem o i):=by
 cases slice
 case Slice a b c p=>
  cases c
  ·exact jN (operate [i,o] (getItem o i))
  ·exact jN (operate [o,i] (getItem o i))
 all_goals exact jN (operate [o,i] (getItem o i))
theorem CF{value slice:PySem.Expr}{prog:Program}{w:aY}{acW:aa->aj->Prop}{Q:aa->aj->Prop}(hT:∃T id,s.TypeIs u T/\typeLookup (.type T) "__getitem__"=pure (some (.builtin id)))(h:wpAny (model prog w) A (getItem u u') Q acW s):
  wpAny (model prog w) A (subscriptTail value slice u u') Q acW s:=by
 refine a6 hT λT id hT hl=>?_;unfold subscriptTail;refine ax ?_;refine ah (getitemInPython_of_ne hT.not_modules) ?_;refine ax (uB hT hl ?_);refine aX (ax ?_);have fin:wpAny (model prog w) A (getItem u u') (λr cR=>wpAny (model prog w) A (letTemporaryGo value u r >>=λY=>pure r) Q acW cR) acW s:=aA h (λr cR FU=>ax (wpAny_letTemporaryGo (aX FU))) λY Y e=>e;rw[subs];exact wpAny_operate' fin
theorem SI{a i:PySem.Expr}{c d:C}{pos:Pos}(ha:Es X n nm a c)(hi:Es X n nm i d):Es X n nm (.Subscript a i pos) (h_ c d):=λK hK E B x ao e o=>by
 refine eQ λkk=>?_;refine aD (Ef hK ha hi (k:=qX) e λv w aE h3=>(Im (X:=X) x ao h3 o).1) λo0 AK=>?_;refine Mi AK λv w aE h3 g=>?_;refine kk ?_;clear AK;refine⟨o0,λenv A N M s hn rm f rd rn=>lQ (g env A N M s _ _ hn rm f rd rn λu u' aN s₂ k eh Y q1 q2=>?_)⟩;refine aD ((Im (X:=X) x ao h3 o).2 A N aN s₂ u u' rm.rl eh q1 q2) λt gg=>?_;exact CF t (aA gg (λY Y p=>p.trans k) λY Y e=>e)
theorem F8{l u st:aa}{Q:aa->aj->Prop}{acV:Model}{acW:aa->aj->Prop}(h:Q (.ref s.heap.objs.size) {s with heap:=s.heap.push {cls:=.type "slice",data:=.fields #[l,u,st] }}):wpAny acV A (newFields "slice" [l,u,st]) Q acW s:=
 wpAny_newObj_type h (by size_fits)
theorem ki{lo up stp:Option PySem.Expr}{p:Pos}{acV:Model}{Q:aa->aj->Prop}{acW:aa->aj->Prop}
  (h:wpAny acV A (valueOrNone (evalOpt lo env)) (λl aw=>wpAny acV A (valueOrNone (evalOpt up env)) (λu s₂=>wpAny acV A (valueOrNone (evalOpt stp env)) (λt cR=>Q (.ref cR.heap.objs.size) {cR with heap:=cR.heap.push {cls:=.type "slice",data:=.fields #[l,u,t] }}) acW s₂) acW aw) acW s):
  wpAny acV A (eval (.Slice lo up stp p) env) Q acW s:=by
 show wpAny acV A (do
  let l←valueOrNone (evalOpt lo env)
  let u←holding [l] (valueOrNone (evalOpt up env))
  let s←holding [l,u] (valueOrNone (evalOpt stp env))
  newFields "slice" [l,u,s]) Q acW s
 refine ax (aA h (λl aw jj=>?_) λY Y e=>e);refine ax (eD (aA jj (λu s₂ fJ=>?_) λY Y e=>e));exact ax (eD (aA fJ (λt cR FU=>F8 FU) λY Y e=>e))
theorem gk{Q:aa->aj->Prop}{acV:Model}{acW:aa->aj->Prop}{env:PySem.Env}(h:Q .none s):wpAny acV A (valueOrNone (evalOpt none env)) Q acW s:=aX h
theorem oH{Q:aa->aj->Prop}{acV:Model}{acW:aa->aj->Prop}{e:PySem.Expr}(h:wpAny acV A (eval e env) Q acW s):wpAny acV A (valueOrNone (evalOpt (some e) env)) Q acW s:=h
theorem ye{k:Bd->RE}(e:WL v k=.ok x ao):∃b,k b=.ok x ao/\∀{h:ay}{Z:List ag}{M:List Lc}{u:aa},VR X h Z M v u->MD b u:=by
 induction v using V.casesOn with
 |int i=>exact aQ (.at i) e (λq=>q)
 |sym i=>exact aQ (.sy i) e (λq=>q)
 |rV a j=>exact aQ (.sy _) e (λq=>q)
 |_=>exact j9 e
theorem pf{lo hi:Bd}{vl vh:aa}{value slice:PySem.Expr}{aN:List Lc}{s₂:aj}(e:LK lo hi v B=.ok x ao)(o:Ok ao)(rl:Rl A)(k:Gw M s aN s₂)(rd:Rd X N aN s₂ B)(q:Vr X N aN s₂ v u)(bl:MD lo vl)(bh:MD hi vh):
  wpAny (model X.prog X.w) A (subscriptTail value slice u (.ref s₂.heap.objs.size)) (Pe X N M s x ao) E0 {s₂ with heap:=s₂.heap.push {cls:=.type "slice",data:=.fields #[vl,vh,.none] }}:=by
 have kk:All s₂.heap (s₂.heap.push {cls:=.type "slice",data:=.fields #[vl,vh,.none] }):=All.push _;have k2:Gw aN s₂ aN {s₂ with heap:=s₂.heap.push {cls:=.type "slice",data:=.fields #[vl,vh,.none] }}:=Gw.all kk;refine aD ((Ay (X:=X) x ao e o).2 A N aN _ u vl vh s₂.heap.objs.size rl (rd.all kk) (q.up k2) bl bh (bX _ rfl)) λt g=>?_;exact CF t (aA g (λY Y p=>(p.trans k2).trans k) λY Y e=>e)
theorem X'{a:PySem.Expr}{c:C}{pos p:Pos}(ha:Es X n nm a c):Es X n nm (.Subscript a (.Slice none none none p) pos) (cSl c):=λK hK E B x ao e o=>by
 refine eQ λkk=>?_;refine a6 (a7 e) λv μ₁ h1 h2=>?_;refine aD (ha K hK E B v μ₁ h1 (Ay (X:=X) x ao h2 o).1) λo0 g1=>?_;refine kk ?_;refine⟨o0,λenv A N M s hn rm f rd rn=>lQ (Pe.go (H:=aa) (t:=eval a env) f rd rn (g1 env A N M s hn rm f rd rn) λu az aw k1 cj fu q1=>ki (gk (gk (gk ?_))))⟩;exact pf h2 o rm.rl k1 cj q1 rfl rfl
theorem SJ{a l:PySem.Expr}{c d:C}{pos p:Pos}(ha:Es X n nm a c)(hl:Es X n nm l d):Es X n nm (.Subscript a (.Slice (some l) none none p) pos) (Ma c d):=λK hK E B x ao e o=>by
 refine a6 (a7 e) λv μ₁ h1 h2=>?_;refine a6 (a7 h2) λw aE h2 h3=>?_;refine aL (ye (X:=X) h3) λb h3 hb=>?_;refine aD (hl K hK E μ₁ w aE h2 (Ay (X:=X) x ao h3 o).1) λo1 g2=>?_;refine aD (ha K hK E B v μ₁ h1 o1) λo0 g1=>?_;refine⟨o0,λenv A N M s hn rm f rd rn=>lQ (Pe.go (H:=aa) (t:=eval a env) f rd rn (g1 env A N M s hn rm f rd rn) λu az aw k1 cj fu q1=>ki (oH (Pe.go (H:=aa) (t:=eval l env) f cj fu (g2 env A N az aw hn rm f cj fu) λu' aN s₂ k2 eh gP q2=>gk (gk ?_))))⟩;exact pf h3 o rm.rl (k1.trans k2) eh (q1.up k2) (hb q2) rfl
theorem SK{a l:PySem.Expr}{c d:C}{pos p:Pos}(ha:Es X n nm a c)(hl:Es X n nm l d):Es X n nm (.Subscript a (.Slice none (some l) none p) pos) (HI c d):=λK hK E B x ao e o=>by
 refine a6 (a7 e) λv μ₁ h1 h2=>?_;refine a6 (a7 h2) λw aE h2 h3=>?_;refine aL (ye (X:=X) h3) λb h3 hb=>?_;refine aD (hl K hK E μ₁ w aE h2 (Ay (X:=X) x ao h3 o).1) λo1 g2=>?_;refine aD (ha K hK E B v μ₁ h1 o1) λo0 g1=>?_;refine⟨o0,λenv A N M s hn rm f rd rn=>lQ (Pe.go (H:=aa) (t:=eval a env) f rd rn (g1 env A N M s hn rm f rd rn) λu az aw k1 cj fu q1=>ki (gk (oH (Pe.go (H:=aa) (t:=eval l env) f cj fu (g2 env A N az aw hn rm f cj fu) λu' aN s₂ k2 eh gP q2=>gk ?_))))⟩;exact pf h3 o rm.rl (k1.trans k2) eh (q1.up k2) rfl (hb q2)
theorem SM{a l m:PySem.Expr}{c d d':C}{pos p:Pos}(ha:Es X n nm a c)(hl:Es X n nm l d)(hm:Es X n nm m d'):Es X n nm (.Subscript a (.Slice (some l) (some m) none p) pos) (vb c d d'):=λK hK E B x ao e o=>by
 refine eQ λkk=>?_;refine a6 (a7 e) λv μ₁ h1 h2=>?_;refine a6 (a7 h2) λw aE h2 h3=>?_;refine a6 (a7 h3) λw' dp h3 h4=>?_;refine aL (ye (X:=X) h4) λb h4 hb=>?_;refine aL (ye (X:=X) h4) λb' h4 hb'=>?_;refine aD (hm K hK E aE w' dp h3 (Ay (X:=X) x ao h4 o).1) λo2 g3=>?_;refine aD (hl K hK E μ₁ w aE h2 o2) λo1 g2=>?_;refine aD (ha K hK E B v μ₁ h1 o1) λo0 g1=>?_;refine kk ?_;refine⟨o0,λenv A N M s hn rm f rd rn=>lQ (Pe.go (H:=aa) (t:=eval a env) f rd rn (g1 env A N M s hn rm f rd rn) λu az aw k1 cj fu q1=>ki (oH (Pe.go (H:=aa) (t:=eval l env) f cj fu (g2 env A N az aw hn rm f cj fu) λu' aN s₂ k2 eh gP q2=>oH (Pe.go (H:=aa) (t:=eval m env) f eh gP (g3 env A N aN s₂ hn rm f eh gP) λu'' cI cR k3 kA vR q3=>gk ?_))))⟩;exact pf h4 o rm.rl ((k1.trans k2).trans k3) kA ((q1.up k2).up k3) (hb q2) (hb' q3)
theorem SN{a:PySem.Expr}{c:C}{pos p p1 p2:Pos}{k:Nat}(ha:Es X n nm a c):Es X n nm (.Subscript a (.Slice none none (some (.UnaryOp .USub (.Constant (.int 1) k p1) p2)) p) pos) (Q8 c):=λK hK E B x ao e o=>by
 refine eQ λkk=>?_;refine a6 (a7 e) λv μ₁ h1 h2=>?_;refine aD (Xx (X:=X) rfl x ao h2 o) λo1 g2=>?_;refine aD (ha K hK E B v μ₁ h1 o1) λo0 g1=>?_;refine kk ?_;refine⟨o0,λenv A N M s hn rm f rd rn=>lQ (Pe.go (H:=aa) (t:=eval a env) f rd rn (g1 env A N M s hn rm f rd rn) λu az aw k1 cj fu q1=>ki (gk (gk (oH ?_))))⟩;refine UnaryOp_ (uC ?_);have ng:=(PY (X:=X) (v:=.int 1) (B:=μ₁) (.int (-1)) μ₁ rfl o1).2 A N az {aw with toks:=aw.toks+1} (.int 1 aw.toks) rm.rl cj ⟨_,rfl⟩;refine aA ng (λu' s₂ X_=>?_) λY Y e=>e;refine bQ X_ λaN k2 eh q2=>?_;clear X_;refine bc q2 λtk SO=>?_;clear q2;subst SO;have k2:Gw az aw aN s₂:=(Gw.tok _).trans k2;have k3:Gw aN s₂ aN {s₂ with heap:=s₂.heap.push {cls:=.type "slice",data:=.fields #[.none,.none,.int (-1) tk] }}:=Gw.all (All.push _);refine aD (g2 A N aN _ u tk s₂.heap.objs.size rm.rl (eh.all (All.push _)) ((q1.up k2).up k3) (bX _ rfl)) λt g=>?_;exact CF t (aA g (λY Y p=>((p.trans k3).trans k2).trans k1) λY Y e=>e)
theorem F9(es:List PySem.Expr)(k:Nat)(pos:Pos):eval (.Tuple es k pos) env=(do standAt pos;newTuple (←spliced (backTo pos (starEach es env)))):=rfl
theorem AM(es:List PySem.Expr)(pos:Pos):eval (.List es pos) env=(do standAt pos;newList (←spliced (backTo pos (starEach es env)))):=rfl
theorem SQ{es:List PySem.Expr}{l:C}{k:Nat}{pos:Pos}(hl:El X n nm es l):Es X n nm (.Tuple es k pos) (pV l):=λK hK E B x ao e o=>by
 refine eQ λkk=>?_;refine a6 (a7 e) λl μ₁ h1 h2=>?_;refine c_ (x7 h2) λsm SS SU=>?_;subst SS;subst SU;refine aD (hl K hK E B l ao h1 o) λo0 g=>?_;refine kk ?_;refine⟨o0,λenv A N M s hn rm f rd rn=>?_⟩;rw[F9];refine ax (e7 (ax (aA (g env A N M s pos hn rm f rd rn) (λus aw zr7=>?_) λY Y e=>e)));refine bQ zr7 λaz k1 cj q1=>?_;clear zr7;have hl:=q1.len;have hs:=fI sm;refine wpAny_newTuple (Pe.trans k1 (Pe.z9 cj h2 (All.push _) (bG _) ⟨_,bX _ rfl,rfl,_,rfl⟩ (by simpa using q1))) (by refine ah dm ?_;omega)
theorem SV{es:List PySem.Expr}{l:C}{pos:Pos}(hl:El X n nm es l):Es X n nm (.List es pos) (B6 l):=λK hK E B x ao e o=>by
 refine eQ λkk=>?_;refine a6 (a7 e) λl μ₁ h1 h2=>?_;have e0:=iH h2;have o1:Ok μ₁:=by show AllP μ₁.nj;refine eV ((fQ e0.2).2.2) ?_;exact o
 refine aD (hl K hK E B l μ₁ h1 o1) λo0 g=>?_;refine kk ?_;refine⟨o0,λenv A N M s hn rm f rd rn=>?_⟩;rw[AM];refine ax (e7 (ax (aA (g env A N M s pos hn rm f rd rn) (λus aw zr8=>?_) λY Y e=>e)));refine bQ zr8 λaz k1 cj q1=>?_;clear zr8;have hl:=q1.len;have hs:=fI e0.1;refine wpAny_newList (Pe.trans k1 (Pe.iV cj h2 (All.push _) (bG _) ⟨_,bX _ rfl⟩ (by simpa using q1))) (by refine ah dm ?_;omega)
end
set_option tactic.hygienic false
structure Gt where
 gl:Nat->OV
 Ya:Nat->Nat
 LL:Nat->List (Nat×Nat)
 zh:Nat->Bool
structure IT(K:Frag)(C:ag)(x:Str):Prop where
 get:plainGet K C x=true
 has:hasDictIn K C=true
 no:findIn K (.ref C) x=some none
 set:findIn K (.ref C) "__setattr__"=some (some (.builtin "object.__setattr__"))
 over:plainOver K C=true
 take:takerIn K C x=some none
structure k9(X:Cx)(G:Gt):Prop where
 name:∀x v,bz x=true->G.gl (idOf x)=.ok v->(x==("__debug__":Str))=false->∀(env:PySem.Env)(A:aM)(s:aj)(Q:aa->aj->Prop),env.globals=mainGlobals->env.builtins=builtinsNs->(∀b o,X.base.get? b=some o->s.heap.get? b=some o)->
  (∀u,(∀h Z M,(∀b o,X.base.get? b=some o->h.get? b=some o)->(∀a∈Z,X.base.get? a=none)->VR X h Z M v u)->Q u s)->wpAny (model X.prog X.w) A (loadGlobal env x) Q E0 s
 fn:∀f,∃o fd,X.base.get? (X.nk f)=some o/\o.data=.func fd
 make:∀c,makesIn X.K (X.r7 c)=true
 init:∀c,findIn X.K (.ref (X.r7 c)) "__init__"=some (some (.ref (X.nk (G.Ya c))))
 isF:∀f,typeIn X.K (.ref (X.nk f))=some (.type "function")
 cls:∀c,(∃o cd,X.base.get? (X.r7 c)=some o/\o.data=.cls cd)/\specialIn X.K (.ref (X.r7 c)) "__call__"=some (some (.builtin "type.__call__"))
 LL:∀x c f,bz x=true->(c,f)∈G.LL (idOf x)->findIn X.K (.ref (X.r7 c)) x=some (some (.ref (X.nk f)))
 zh:∀c x,bz x=true->G.zh (idOf x)=true->IT X.K (X.r7 c) x
 get:∀c x,plainGet X.K (X.r7 c) x=true
section
variable{X:Cx}{n:Nat}{nm:Nm}{A:aM}{N:List ag}{M aK:List Lc}{s s' ru:aj}{v w x:V}{u u':aa}{B ao μ₁:Mm}{env:PySem.Env}{E:Env}{G:Gt}
noncomputable def fK(es:List PySem.Expr):Bool:=es.all fB
theorem AN{es:List PySem.Expr}{pos:Pos}(h:fK es=true):(backTo pos (starEach es env)).any (·.1)=false:=by
 induction es with
 |nil=>rfl
 |cons e es ih=>
  unfold fK at h ih;rw[iO,cK] at h;refine ah (k8 h.1) ?_;exact ih h.2
theorem SW{es:List PySem.Expr}{pos:Pos}{f:aa}{acV:Model}{Q:List aa->aj->Prop}{acW:aa->aj->Prop}(h:fK es=true)(hq:wpAny acV A (spliced (backTo pos (starEach es env))) Q acW s):
  wpAny acV A (evalArgs f true (backTo pos (starEach es env)) []) (λa s'=>∃us,a=⟨us,[]⟩/\Q us s') acW s:=by
 induction es using bE with
 |nil=>
  unfold evalArgs;show wpAny acV A (spliced [] >>= _) _ acW s;refine ax (aA hq (λus s' q=>?_) λY Y e=>e);refine ax (aX (eD ?_));exact ax (aX (ax (aX (aX (aQ us rfl q)))))
 |cons e es=>
  unfold fK at h;rw[iO,cK] at h;rw[k8 h.1] at hq ⊢;exact evalArgs_plain (aA hq (λus s' q=>(aQ us rfl q)) λY Y e=>e)
noncomputable def Kp(X:Cx)(f:aa):Prop:=∀(A:aM)(s:aj)(Q:Keeper->aj->Prop),(∀b o,X.base.get? b=some o->s.heap.get? b=some o)->(∀k,Q k s)->wpAny (model X.prog X.w) A (keeperOf f) Q E0 s
theorem yf(T:String):Kp X (.type T):=λA s Q Y h=>aX (h _)
theorem IU(T:String):Kp X (.builtin T):=λA s Q Y h=>aX (h _)
theorem IV(g:k9 X G)(f:Nat):Kp X (.ref (X.nk f)):=λA s Q hb h=>by
 refine a6 (g.fn f) λo fd ho hd=>?_;unfold keeperOf;refine ax (wpAny_load (hb _ _ ho) ?_);refine ah hd ?_;exact aX (h _)
theorem SX(ok:mO X)(g:k9 X G)(c:Nat):Kp X (.ref (X.r7 c)):=λA s Q hb h=>by
 refine aD (g.cls c) λvH sp=>?_;refine a6 vH λo cd ho hd=>?_;clear vH;unfold keeperOf;refine ax (wpAny_load (hb _ _ ho) ?_);refine ah hd ?_;exact ax ((looks_specialIn (ok.F2.keeps hb) sp).here (aX (h _)))
theorem fV{f:aa}{first:List aa}{es:List PySem.Expr}{pos abv:Pos}{Q:aa->aj->Prop}(hp:fK es=true)(kp:Kp X f)
  (h:wpAny (model X.prog X.w) A (spliced (backTo pos (starEach es env))) (λus aw=>(∀b o,X.base.get? b=some o->aw.heap.get? b=some o)/\wpAny (model X.prog X.w) A (call f (first++us)) Q E0 aw) E0 s):
  wpAny (model X.prog X.w) A (callWith abv f first (backTo pos (starEach es env)) []) Q E0 s:=by
 dsimp only[callWith];refine ax (eD (aA (SW (env:=env) (pos:=pos) hp h) (λa aw pD=>?_) λY Y e=>e));refine bQ pD λus ha hb hc=>?_;clear pD;subst ha;refine ax (e7 ?_);dsimp only;rw[AN hp,List.any_nil,nH]
 have tail:∀{t:Sem aa},wpAny (model X.prog X.w) A t Q E0 aw->wpAny (model X.prog X.w) A (t >>=λr=>holding [r] point >>=λY=>pure r) Q E0 aw:=
  λht=>ax (aA ht (λr s₂ hr=>ax (eD (wpAny_point (aX hr)))) λY Y x=>x)
 refine ax (kp A aw _ hb λk=>?_);have mk:∀{m:aa},wpAny (model X.prog X.w) A (callMarked m f (first++us) []) Q E0 aw:=by unfold callMarked;exact wpAny_keep hc
 induction k<;>dsimp only
 ·split
  ·exact tail hc
  ·exact tail mk
 ·split
  ·exact tail hc
  ·exact tail mk
 ·exact tail hc
 ·exact tail (wpAny_operate' hc)
noncomputable def Gv(X:Cx)(nm:Nm)(e:PySem.Expr)(v:V):Prop:=∀(env:PySem.Env)(A:aM)(N:List ag)(M:List Lc)(s:aj)(Q:aa->aj->Prop),env.scope.names=nm->Fe N env->(∀b o,X.base.get? b=some o->s.heap.get? b=some o)->(∀a∈N++foot M,X.base.get? a=none)->
 (∀u,VR X s.heap (N++foot M) M v u->Q u s)->wpAny (model X.prog X.w) A (eval e env) Q E0 s
theorem SY(g:k9 X G){y:Str}{pos:Pos}(hx:bz y=true)(hv:G.gl (idOf y)=.ok v)(hd:(y==("__debug__":Str))=false)(hk:nm.lookup y=some .globalImplicit):Gv X nm (.Name y pos) v:=λenv A N M s Q hn f hb hl hq=>
 Name_function_global f.fn (by rw[←hn] at hk;exact hk) (g.name y v hx hv hd env A s Q f.gl f.bl hb λu hu=>hq u (hu s.heap _ M hb hl)) hd
theorem Gv.es{e:PySem.Expr}(h:Gv X nm e v):Es X n nm e (cC v):=IM λenv A N M s Q hn f hb hl hq=>h env A N M s Q hn f hb hl λu q=>hq u s.toks q
theorem jM{id:Str}{p pos:Pos}{es:List PySem.Expr}{Q:aa->aj->Prop}{acV:Model}{acW:aa->aj->Prop}
  (h:wpAny acV A (eval (.Name id p) env) (λf aw=>wpAny acV A (callWith pos f [] (backTo pos (starEach es env)) []) Q acW aw) acW s):wpAny acV A (eval (.Call (.Name id p) es [] pos) env) Q acW s:=by
 rw[arm_eval_Call_Name'];exact ax h
theorem Yb(g:k9 X G){id:Str}{p pos:Pos}{es:List PySem.Expr}{f:Nat}{l:C}(hf:Gv X nm (.Name id p) (.fn f))(hl:El X n nm es l)(hp:fK es=true):Es X n nm (.Call (.Name id p) es [] pos) (rZ f l):=λK hK E B x ao e o=>by
 refine eQ λkk=>?_;refine a6 (a7 e) λl μ₁ h1 h2=>?_;refine aD (hK f l μ₁ x ao h2 o) λo1 k=>?_;refine aD (hl K hK E B l μ₁ h1 o1) λo0 gl=>?_;refine kk ?_;refine⟨o0,λenv A N M s hn rm fe rd rn=>jM (hf env A N M s _ hn fe rd.base rd.low λu q=>?_)⟩;subst q;refine fV hp (IV g f) (aA (gl env A N M s pos hn rm fe rd rn) (λus aw ⟨az,k1,cj,q1⟩=>⟨cj.base,n8 (j1 (k A N az aw us rm.rq cj q1) λr s' z=>?_)⟩) λY Y e=>e)
 rcases r with e|(v|_|_|_)<;>first|exact z|exact Pe.trans k1 z
theorem F':∀b:Nat,(∃T,r8 b=.type T)∨∃x,r8 b=.builtin x
 |0=>.inr ⟨_,rfl⟩|1=>.inl ⟨_,rfl⟩|2=>.inl ⟨_,rfl⟩|3=>.inr ⟨_,rfl⟩|4=>.inl ⟨_,rfl⟩|5=>.inr ⟨_,rfl⟩|6=>.inr ⟨_,rfl⟩|_+7=>.inl ⟨_,rfl⟩
theorem S'(ok:mO X)(g:k9 X G){id:Str}{p pos:Pos}{es:List PySem.Expr}{b:Nat}{l:C}(XD:b≠2)(hf:Gv X nm (.Name id p) (.blt b))(hl:El X n nm es l)(hp:fK es=true):Es X n nm (.Call (.Name id p) es [] pos) (jE b l):=λK hK E B x ao e o=>by
 refine eQ λkk=>?_;refine a6 (a7 e) λl μ₁ h1 h2=>?_;refine aD (Sg ok b XD x ao h2 o) λo1 k=>?_;refine aD (hl K hK E B l μ₁ h1 o1) λo0 gl=>?_;refine kk ?_;refine⟨o0,λenv A N M s hn rm fe rd rn=>jM (hf env A N M s _ hn fe rd.base rd.low λu q=>?_)⟩;subst q;refine fV hp ((F' b).elim (λq=>q.elim λT e=>e▸yf _) λq=>q.elim λx e=>e▸IU _) (aA (gl env A N M s pos hn rm fe rd rn) (λus aw ⟨az,k1,cj,q1⟩=>⟨cj.base,?_⟩) λY Y e=>e);exact aA (k A N az aw us rm.rl cj q1) (λY Y p=>p.trans k1) λY Y e=>e
theorem MY(g:k9 X G){id:Str}{p pos:Pos}{es:List PySem.Expr}{c l:C}(hf:Es X n nm (.Name id p) c)(hl:El X n nm es l)(hp:fK es=true):Es X n nm (.Call (.Name id p) es [] pos) (HG c l):=λK hK E B x ao e o=>by
 refine a6 (a7 e) λfv xu h0 h1=>?_;refine a6 (a7 h1) λlv μ₁ h3 h2=>?_
 induction fv with
 |fn f=>
  refine aD (hK f lv μ₁ x ao h2 o) λo1 k=>?_;refine aD (hl K hK E xu lv μ₁ h3 o1) λo0 gl=>?_;refine aD (hf K hK E B _ xu h0 o0) λoz gf=>?_;refine⟨oz,λenv A N M s hn rm fe rd rn=>jM (Pe.go (H:=aa) (t:=eval (.Name id p) env) fe rd rn (gf env A N M s hn rm fe rd rn) λu ρ₀ s₀ k0 Hf rn0 q=>?_)⟩;subst q;refine fV hp (IV g f) (aA (gl env A N ρ₀ s₀ pos hn rm fe Hf rn0) (λus aw ⟨az,k1,cj,q1⟩=>⟨cj.base,n8 (j1 (k A N az aw us rm.rq cj q1) λr s' z=>?_)⟩) λY Y e=>e)
  rcases r with e|(v|_|_|_)<;>first|exact z|exact Pe.trans (k0.trans k1) z
 |_=>exact j9 h2
end
set_option tactic.hygienic true
section
variable{X:Cx}{n:Nat}{nm:Nm}{A:aM}{N:List ag}{M aK:List Lc}{s s' ru:aj}{v w x:V}{u u':aa}{B ao μ₁:Mm}{env:PySem.Env}{E:Env}{G:Gt}{h:ay}{Z:List ag}
noncomputable def isNm(o:PySem.Expr):Bool:=by
 cases o
 case Name=>exact true
 all_goals exact false
noncomputable def S_(o:PySem.Expr):Bool:=by
 cases o
 case Call f l k p=>exact !(isNm f&&(l.isEmpty&&k.isEmpty))
 all_goals exact true
theorem sW{o:PySem.Expr}{attr:Str}{whole:Sem aa}(h:S_ o=true):attributeBase o attr env whole=whole:=by
 cases o
 case Call f l k p=>
  induction l using bE with
  |cons _ _=>cases f<;>exact jN whole
  |nil=>induction k using bE with
   |cons _ _=>cases f<;>exact jN whole
   |nil=>
    cases f
    case Name=>exact absurd h nT
    all_goals exact jN whole
 all_goals exact jN whole
theorem VF.look{y:Str}(hy:bz y=true):∀{l:V}{es:List cG},VF X h Z M l es->
  (∀v,gc l (idOf y)=.ok v->∃e,es.find? (λe=>e.key.isStr y)=some e/\VR X h Z M v e.val)/\(gc l (idOf y)=.no->es.find? (λe=>e.key.isStr y)=none/\es.any (λe=>e.refKey)=false):=by
 intro l
 induction l with
 |nil=>intro es q;subst q;exact⟨λv e=>(absurd e nO),λY=>⟨rfl,rfl⟩⟩
 |fld m z r _ ih=>
  intro es q;refine vg q λx t e xs oD hk hx hm q1 q2=>?_;clear q;subst oD;refine aD (ih q2) λi1 i2=>?_;have hl:gc (.fld m z r) (idOf y)= @Bool.rec (λY=>OV) (gc r (idOf y)) (OV.ok z) (aC m (idOf y)):=rfl;refine ah hl ?_;have hs:e.key.isStr y=(x==y):=by refine ah hk ?_;rfl
  have hr:e.refKey=false:=by unfold DictEntry.refKey;exact ah hk rfl
  refine cW (aC m (idOf y)) (λhb=>?_) (λhb=>?_);rotate_left
  ·have:x=y:=idOf_inj hx hy (hm.trans (ta hb));refine⟨λv ev=>(aQ e ?_ (by refine DS ev ?_;exact q1)),λev=>(OV.noConfusion ev)⟩;refine ah (qx) (ah hs (ah this ?_));simp
  ·have qk:(x==y)=false:=by
    rw[beq_eq_false_iff_ne];intro c;subst c;exact Cj hb hm.symm
   refine⟨λv ev=>?_,λev=>?_⟩
   ·refine aL (i1 v ev) λe' h1 h2=>?_;exact⟨e',by refine ah (qx) (ah hs (ah qk ?_));exact h1,h2⟩
   ·refine aD (i2 ev) λh1 h2=>?_;exact⟨by rw[qx,hs,qk];exact h1,by rw[List.any_cons,hr,Bool.false_or];exact h2⟩
 |_=>intro es q;exact eY q
theorem Ej{c:Nat}{l:V}(rd:Rd X N M s B)(e:attrs v B=.ok c l)(q:Vr X N M s v u):∃x d es m,u=.ref x/\s.heap.get? x=some (instObj (X.r7 c) d)/\s.heap.get? d=some (PySem.W.dictOf es m)/\VF X s.heap (N++foot M) M l es:=by
 induction v using V.casesOn with
 |xf c' l'=>
  refine iOA e ?_;refine vg q λx d es m hu Y Y h1 h2 h3=>?_;clear q;exact w3 x d es m hu h1 h2 h3
 |loc i=>
  have e:uY (bk B i)=.ok c l:=e;refine cOO (bk B i) (λho=>?_) (λo ho=>?_)
  ·replace e:=ho▸e;exact absurd e nA
  ·replace e:=ho▸e
   induction o with
   |inst c' l'=>
    refine iOA e ?_;refine aL (kK rd ho) λp hp i6=>?_;refine ve i6 λx d es m hpp h1 h2 h3=>?_;clear i6;refine bQ q λp' kf Y IW=>?_;clear q;subst IW;replace kf:=hp▸kf;refine Af kf ?_;subst hpp;exact w3 x d es m rfl h1 h2 h3
   |_=>exact absurd e nA
 |_=>exact absurd e nA
theorem tB{C x d:ag}{es:List cG}{m:Nat}(h1:h.get? x=some (instObj C d))(h2:h.get? d=some (PySem.W.dictOf es m)):InstAt h x (instObj C d) C (some (PySem.W.dictOf es m)):=⟨h1,rfl,rfl,h2⟩
theorem CG:∀b:Nat,handedIn (r8 b)=true
 |0=>by decide+kernel
 |1=>rfl
 |2=>rfl
 |3=>by decide+kernel
 |4=>rfl
 |5=>by decide+kernel
 |6=>by decide+kernel
 |n+7=>rfl
theorem VR.handed(q:VR X h Z M v u):handedIn u=true:=by
 induction v using V.casesOn with
 |none=>subst q;rfl
 |bool b=>subst q;rfl
 |zZ b=>subst q;rfl
 |int i=>refine bc q λY vS=>?_;clear q;subst vS;rfl
 |sym i=>refine bc q λY AB=>?_;clear q;subst AB;rfl
 |rV a k=>refine bc q λY Ii=>?_;clear q;subst Ii;rfl
 |str b=>refine bc q λY Cz=>?_;clear q;subst Cz;rfl
 |ak b=>refine bc q λY vC=>?_;clear q;subst vC;rfl
 |tup l=>refine a6 q λY Y Ta Y=>?_;clear q;subst Ta;rfl
 |lst l=>refine a6 q λY Y mP Y=>?_;clear q;subst mP;rfl
 |wX l=>refine aL q λY vD Y=>?_;clear q;subst vD;rfl
 |xf c l=>refine FT q λY Y Y Y Tb Y=>?_;clear q;subst Tb;rfl
 |om a b d=>refine FT q λY Y Y Y Tc Y=>?_;clear q;subst Tc;rfl
 |loc i=>refine bQ q λY Y Y Td=>?_;clear q;subst Td;rfl
 |fn f=>subst q;rfl
 |cls c=>subst q;rfl
 |blt b=>subst q;exact CG b
 |_=>exact eY q
theorem Ek(ok:mO X)(g:k9 X G){y:Str}(hy:bz y=true)(ha:G.zh (idOf y)=true){expr:Bool}(e:xk (idOf y) v B=.ok x ao):ao=B/\∀A N M s u,Rd X N M s B->Vr X N M s v u->wpAny (model X.prog X.w) A (getAttr u y expr) (Pe X N M s x ao) E0 s:=by
 unfold xk at e;refine cOA (attrs v B) (λhv=>?_) (λc l hv=>?_)
 ·replace e:=hv▸e;exact j9 e
 ·replace e:=hv▸e;refine aD (CD (o:=gc l (idOf y)) e) λhl vE=>?_;subst vE;refine⟨rfl,λA N M s u rd q=>?_⟩;refine ve (Ej rd hv q) λz d es m vG h1 h2 h3=>?_;subst vG;refine aL ((h3.look hy).1 x hl) λen hf hq=>?_;have F:=g.zh c y hy ha;refine get_value (ok.F2.keeps rd.base) (tB h1 h2) (plainGet_of F.get).1 (findObj_own F.has F.no rfl (by rw[lookIn_dict];unfold getL;exact ah hf rfl)) hq.handed ?_;exact Pe.same rd rfl hq rfl
theorem MZ(ok:mO X)(g:k9 X G){o:PySem.Expr}{y:Str}{pos:Pos}{c:C}(ho:Es X n nm o c)(hb:S_ o=true)(hy:bz y=true)(ha:G.zh (idOf y)=true):Es X n nm (.Attribute o y pos) (dZ c (idOf y)):=λK hK E B x ao e h=>by
 refine eQ λkk=>?_;refine a6 (a7 e) λv μ₁ h1 h2=>?_;refine aD (Ek ok g hy ha (expr:=true) h2) λTe k=>?_;subst Te;refine aD (ho K hK E B v ao h1 h) λo0 g1=>?_;refine kk ?_;refine⟨o0,λenv A N M s hn rm f rd rn=>Attribute_any_ (Pe.go (H:=aa) (t:=eval o env) f rd rn (g1 env A N M s hn rm f rd rn) λu az aw k1 cj fu q1=>?_) (by rw[arm_eval_Attribute,sW hb])⟩;exact aA (k A N az aw u cj q1) (λY Y p=>p.trans k1) λY Y e=>e
theorem AO{o:PySem.Expr}{y:Str}{apos pos:Pos}{es:List PySem.Expr}{Q:aa->aj->Prop}(hb:S_ o=true)(hp:fK es=true)(hf:es.length<30)(hl:(apos.endLine==pos.line)=true)
  (h:wpAny (model X.prog X.w) A (eval o env) (λov aw=>wpAny (model X.prog X.w) A (getMethod ov y (do return (←importBound o env).getD true)) (λfx s₂=>wpAny (model X.prog X.w) A (callWith pos fx.1 fx.2 (backTo pos (starEach es env)) []) Q E0 s₂) E0 aw) E0 s):
  wpAny (model X.prog X.w) A (eval (.Call (.Attribute o y apos) es [] pos) env) Q E0 s:=by
 rw[arm_eval_Call,sW hb];refine ax (aA h (λov aw jj=>?_) λY Y e=>e);refine ax (e7 ?_)
 have few:methodCallForm (es.length+([] :List Keyword).length) (backTo pos (starEach es env)) (backToKw pos (keywordEach [] env))=true:=by
  unfold methodCallForm
  have:(backTo pos (starEach es env)).all (λx=>!x.1)=true:=by
   have:=AN (env:=env) (pos:=pos) hp;rw[c9];intro z hz;refine cW (z.1) (λhz1=>?_) (λhz1=>?_)
   ·rfl
   ·rw[List.any_eq_false] at this;exact absurd hz1 (by simpa using this z hz)
  refine ah this ?_;exact decide_eq_true hf
 have abw:methodCallPos true o env apos pos=pure pos:=by unfold methodCallPos;simp[hl]
 dsimp only[methodCall];refine ah few ?_;refine ax (eD (aA jj (λfx s₂ fJ=>?_) λY Y e=>e));exact ax (qI abw fJ)
theorem Yc{m:Mt}{o:PySem.Expr}{apos pos:Pos}{es:List PySem.Expr}{c l:C}(ho:Es X n nm o c)(hl:El X n nm es l)(hb:S_ o=true)(hp:fK es=true)(hf:es.length<30)(Yd:(apos.endLine==pos.line)=true):
  Es X n nm (.Call (.Attribute o (XH m) apos) es [] pos) (FN m c l):=λK hK E B x ao e h=>by
 refine a6 (a7 e) λv μ₁ h1 h2=>?_;have h2:(@Bool.rec (λY=>RE) RE.no (cw (l K E μ₁) (lU m v)) (Q7 m v μ₁))=.ok x ao:=h2;refine cBool (Q7 m v μ₁) (λhk=>?_) (λhk=>?_)
 ·replace h2:=hk▸h2;exact j9 h2
 ·replace h2:=hk▸h2;refine eQ λkk=>?_;refine a6 (a7 (r:=l K E μ₁) h2) λlv aE h3 h4=>?_;refine aD (MV (X:=X) x ao h4 h) λo2 k=>?_;refine aD (hl K hK E μ₁ lv aE h3 o2) λo1 gl=>?_;refine aD (ho K hK E B v μ₁ h1 o1) λo0 g1=>?_;refine kk ?_;refine⟨o0,λenv A N M s hn rm f rd rn=>AO hb hp hf Yd (Pe.go (H:=aa) (t:=eval o env) f rd rn (g1 env A N M s hn rm f rd rn) λu az aw k1 cj fu q1=>IB cj hk q1 ?_)⟩;refine fV hp (IU _) (aA (gl env A N az aw pos hn rm f cj fu) (λus s₂ ⟨aN,k2,eh,q2⟩=>⟨eh.base,?_⟩) λY Y e=>e);exact aA (k A N aN s₂ u us rm.rl eh (q1.up k2) q2) (λY Y p=>p.trans (k1.trans k2)) λY Y e=>e
theorem M0{t:List (Nat×Nat)}{c:Nat}{K:Kc}{l:V}(e:pick t c K l B=.ok x ao):∃f,(c,f)∈t/\K f l B=.ok x ao:=by
 induction t with
 |nil=>exact absurd e nE
 |cons p t ih=>
  have e:(@Bool.rec (λY=>RE) (pick t c K l B) (K p.2 l B) (aC p.1 c))=.ok x ao:=e;refine cBool (aC p.1 c) (λhb=>?_) (λhb=>?_);rotate_left
  ·replace e:=hb▸e;refine(aQ p.2 ?_ e);refine eV (ta hb) ?_;exact aW
  ·replace e:=hb▸e;refine aL (ih e) λf h1 h2=>?_;exact aQ f (aP _ h1) h2
theorem M1(ok:mO X)(g:k9 X G){y:Str}{o:PySem.Expr}{apos pos:Pos}{es:List PySem.Expr}{c l:C}(hy:bz y=true)(ho:Es X n nm o c)(hl:El X n nm es l)(hb:S_ o=true)(hp:fK es=true)(hf:es.length<30)(Yd:(apos.endLine==pos.line)=true):
  Es X n nm (.Call (.Attribute o y apos) es [] pos) (pK (idOf y) (G.LL (idOf y)) c l):=λK hK E B x ao e h=>by
 refine a6 (a7 e) λv μ₁ h1 h2=>?_;unfold HH at h2;refine cOA (attrs v μ₁) (λhv=>?_) (λcl fl hv=>?_)
 ·replace h2:=hv▸h2;exact j9 h2
 ·replace h2:=hv▸h2;have h2:DH (gc fl (idOf y)) (cw (l K E μ₁) (DI (G.LL (idOf y)) cl v K))=.ok x ao:=h2;refine Ml (gc fl (idOf y)) (λVV=>?_) (λY VV=>?_);rotate_left
  ·replace h2:=VV▸h2;exact j9 h2
  ·replace h2:=VV▸h2;refine eQ λkk=>?_;refine a6 (a7 (r:=l K E μ₁) h2) λlv aE h3 h4=>?_;refine aL (M0 (t:=G.LL (idOf y)) h4) λf hm h5=>?_;refine aD (hK f (.cons v lv) aE x ao h5 h) λo2 k=>?_;refine aD (hl K hK E μ₁ lv aE h3 o2) λo1 gl=>?_;refine aD (ho K hK E B v μ₁ h1 o1) λo0 g1=>?_;refine kk ?_;refine⟨o0,λenv A N M s hn rm fe rd rn=>AO hb hp hf Yd (Pe.go (H:=aa) (t:=eval o env) fe rd rn (g1 env A N M s hn rm fe rd rn) λu az aw k1 cj fu q1=>?_)⟩;refine ve (Ej cj hv q1) λz d es' m Tf a1 a2 a3=>?_;subst Tf;have pg:=g.get cl y;refine aD ((a3.look hy).2 VV) λb1 b2=>?_;refine method_fn (ok.F2.keeps cj.base) (tB a1 a2) (plainGet_of pg).1 (plainGet_of pg).2 (g.LL y cl f hy hm) (g.isF f) (by show(getL y es').map _=_;unfold getL;refine ah b1 (ah b2 ?_);rfl) ?_;refine fV hp (IV g f) (aA (gl env A N az aw pos hn rm fe cj fu) (λus s₂ ⟨aN,k2,eh,q2⟩=>⟨eh.base,?_⟩) λY Y e=>e);refine n8 (j1 (k A N aN s₂ (.ref z::us) rm.rq eh (dy _ _ rfl (q1.up k2) q2)) λr s' zz=>?_)
   rcases r with e|(v|_|_|_)<;>first|exact zz|exact Pe.trans (k1.trans k2) zz
end
set_option tactic.hygienic false
section
variable{X:Cx}{n:Nat}{nm:Nm}{A:aM}{N:List ag}{M aK:List Lc}{s s' ru:aj}{v w x:V}{u u':aa}{B ao μ₁:Mm}{env:PySem.Env}{E:Env}{G:Gt}{h:ay}{Z:List ag}
theorem M3(C:ag)(l:List aa)(kw:List (Str×aa)):(Code.builtin "type.__call__" ⟨.ref C::l,kw⟩).weight=1:=by kernel_rfl
theorem M4(C:ag)(l:List aa)(kw:List (Str×aa)):(Code.builtin "type.__call__" ⟨.ref C::l,kw⟩).cUnits=1:=by kernel_rfl
theorem Rm.new{C:ag}{l:List aa}{kw:List (Str×aa)}(r:Rm n A):Rq n (A.under (.builtin "type.__call__" ⟨.ref C::l,kw⟩)):=by
 refine(bL r.1 ?_ ?_)
 ·show A.units+_+50+_<_;rw[M4];have:=r.2.1;lia
 ·show A.depth+_+6+_<_;rw[M3];have:=r.2.2;lia
theorem IX{r:RE}(e:HE v r=.ok x ao):r=.ok .none ao/\x=v:=by
 induction r with
 |no=>exact absurd e nE
 |ok u B=>induction u with
  |none=>refine DQ e ?_;exact⟨rfl,rfl⟩
  |_=>exact j9 e
theorem Th(ok:mO X)(g:k9 X G){id:Str}{p pos:Pos}{es:List PySem.Expr}{c:Nat}{l:C}(hf:Gv X nm (.Name id p) (.cls c))(hl:El X n nm es l)(hp:fK es=true):Es X n nm (.Call (.Name id p) es [] pos) (HF c (G.Ya c) l):=λK hK E B x ao e o=>by
 refine a6 (a7 e) λlv μ₁ h1 h2=>?_;refine a6 (a7 h2) λz aE h2 h3=>?_;refine aD (IX (r:=K (G.Ya c) (.cons z lv) aE) h3) λh3 hxz=>?_;subst hxz;refine aD (hK (G.Ya c) (.cons x lv) aE .none ao h3 o) λo2 k=>?_;refine c_ (fQ h2) λhz st ob=>?_;have o1:Ok μ₁:=by show AllP μ₁.nj;refine eV ob ?_;exact o2
 refine aD (hl K hK E B lv μ₁ h1 o1) λo0 gl=>?_;refine⟨o0,λenv A N M s hn rm fe rd rn=>jM (hf env A N M s _ hn fe rd.base rd.low λu q=>?_)⟩;subst q;refine fV hp (SX ok g c) (aA (gl env A N M s pos hn rm fe rd rn) (λus aw ⟨az,k1,cj,q1⟩=>⟨cj.base,n8 ?_⟩) λY Y e=>e);have F2:=ok.F2.keeps cj.base;obtain⟨hh,gg,d,t,os⟩:=aw;refine make_core (makes_of F2 (g.make c)) (looks_findIn F2 (g.init c)) (λself=>bind_fn F2 self (g.isF _)) (.inl rfl) ?_;have all2:All hh ((hh.push emptyDict).push (instObj (X.r7 c) hh.objs.size)):=(All.push _).trans (All.push _)
 have VW:∀a∈(Lc.two (hh.objs.size+1) hh.objs.size).foot,hh.get? a=none:=λa ha=>by
  simp only[Lc.foot,aR,fw,or_false] at ha;refine kZ (hh.get? a) (λea=>?_) (λo ea=>?_)
  ·rfl
  ·have ea:hh.get? a=some o:=ea;have lt:=iE ea
   rcases ha with h1|h1
   ·rw[h1] at lt;exact absurd lt (iB.mpr (fZ _))
   ·rw[h1] at lt;exact absurd lt (jW _)
 have P:=Pe.new (s':=⟨(hh.push emptyDict).push (instObj (X.r7 c) hh.objs.size),gg,d,t,os⟩) (p:=.two (hh.objs.size+1) hh.objs.size) cj h2 all2 (λh=>nomatch h) VW (by simp[Lc.foot])
  ⟨hh.objs.size+1,hh.objs.size,[],0,rfl,by heap_get,by heap_get,rfl⟩
 refine bQ P λaN k2 eh q2=>?_;clear P;refine j1 (k _ N aN _ (.ref (hh.objs.size+1)::us) rm.new eh (dy _ _ rfl q2 (Vl.up k2 q1))) λr s' zz=>?_
 rcases r with e|(v|_|_|_)<;>first|exact zz.elim|skip
 refine bQ zz λcI k3 kA q3=>?_;clear zz;exact⟨q3,cI,(k1.trans k2).trans k3,kA,Vr.up k3 q2⟩
end
set_option backward.match.sparseCases false
section
variable{X:Cx}{n:Nat}{nm:Nm}{A:aM}{N:List ag}{M aK:List Lc}{s s' ru:aj}{v w x:V}{u u':aa}{B ao μ₁:Mm}{env:PySem.Env}{E:Env}{G:Gt}{h h':ay}{Z Z':List ag}
theorem Em{l:V}{us:List aa}(q:VL X h Z M l us):∀k:Nat,VL X h Z M (FH l k) (gV k us).flatten:=by
 intro zr
 induction zr with
 |zero=>
  exact rfl
 |succ k bN=>
  exact by refine ah zq (ah List.flatten_cons ?_);exact mN q (bN)
theorem F_{l:ag}{items:Array aa}{k:Nat}{x:Int}{u:Tok}{Q:aa->aj->Prop}{acW:aa->aj->Prop}{prog:Program}{w:aY}
  (hl:s.heap.get? l=some {cls:=.type "list",dict:=none,data:=.seq items k,slots:= #[] }) (hlo:0≤x) (hhi:x<2 ^ 63) (hsz:items.size * x.toNat≤2 ^ 24)
  (h:Q (.ref s.heap.objs.size) {s with heap:=s.heap.push {cls:=.type "list",data:=.seq (gV x.toNat items.toList).flatten.toArray}}):
  wpAny (model prog w) A (binaryOp .Mult (.ref l) (.int x u)) Q acW s:=by
 refine wpAny_binaryOp_repeat_ref (T:="list") (U:="int") (by decide) (aQ _ hl rfl) (λs'=>typeIs_int s' x u) noFill_list_mul F.fills_int_mul F.slot_int_rmul repeat_list F.slot_int_index.lookup
  (lR F.slot_int_rmul (typeIs_int s x u) F.entry_int_rmul (F.args_int_rmul_2 _ _) (int___rmul___int_list x u l items k)
   (ib hl rfl (aQ _ hl rfl) (lR F.slot_list_mul (aQ _ hl rfl) F.entry_list_mul (F.args_list_mul_2 _ _)
    (AutoListH.list___mul___list_int_3 l items k x u (by simp[Builtin.List.listFitsIndex];lia) (by omega) (by simp[Builtin.List.listTooLong,sizeLine];omega))
    ⟨hl,?_⟩)))
 show Q _ _;refine cW (items.isEmpty) (λhe=>?_) (λhe=>?_);rotate_left
 ·have:items.toList=[] :=by have:=ny.mp he;exact ah this rfl
  rw[if_pos rfl];have e:(gV x.toNat items.toList).flatten=[] :=by refine ah this ?_;simp
  rw[e] at h;exact h
 ·rw[if_neg nT];rw[listMul_foldl]
  simpa using h
theorem Ti{es:List PySem.Expr}{l:C}{p p' pos:Pos}{k kk:Nat}(hl:El X n nm es l)(hk0:0<k)(hk:k<10000):Es X n nm (.BinOp (.List es p) .Mult (.Constant (.int (ab k)) kk p') pos) (Q' l k):=λK hK E B x ao e o=>by
 refine a6 ((a7 e)) λlv μ₁ IK Ee=>?_;have e0:=iH Ee;have o1:Ok μ₁:=by show AllP μ₁.nj;refine eV ((fQ e0.2).2.2) ?_;exact o
 refine aD (hl K hK E B lv μ₁ IK o1) λYe Yf=>?_;refine⟨Ye,λenv A N M s hn rm f rd rn=>wpAny_BinOp ?_⟩;rw[AM];refine ax (e7 (ax (aA (Yf env A N M s p hn rm f rd rn) (λus aw Yg=>?_) λY Y e=>e)));refine bQ Yg λaz k1 cj q1=>?_;clear Yg;have hs:=fI e0.1;have hr:=(Em q1 k).len;have LP:((gV k us).flatten).length=k * us.length:=by simp
 rw[LP] at hr
 by_cases VX:us.length≤sizeLine
 ·refine wpAny_newList (uC ?_) VX;refine F_ (items:=us.toArray) (k:=0) (bX _ rfl) (b9 k) (by show(k:Int)<_;omega) (by show us.toArray.size * k≤_;rw[List.size_toArray,Nat.mul_comm];lia) ?_;refine Pe.trans k1 (Pe.iV cj Ee ((All.push _).trans (All.push _)) (a:=(aw.heap.push {cls:=.type "list",data:=.seq us.toArray}).objs.size) ?_ ⟨_,bX _ rfl⟩ (by simpa using Em q1 k));refine kZ (aw.heap.get? (aw.heap.push {cls:=.type "list",data:=.seq us.toArray}).objs.size) (λea=>?_) (λo' ea=>?_)
  ·rfl
  ·have:=iE ea;rw[Heap.size_push] at this;exact absurd this (iB.mpr (fZ _))
 ·exfalso
  have:us.length≤k * us.length:=Nat.le_mul_of_pos_left _ hk0;rw[dm] at VX;lia
noncomputable def VK(X:Cx)(h:ay)(Z:List ag)(M:List Lc):V->List (aa×aa)->Prop
 |.nil,us=>us=[]
 |.kv k v r,us=>∃a b t,us=(a,b)::t/\VR X h Z M k a/\VR X h Z M v b/\VK X h Z M r t
 |_,_=>False
theorem VK.mono(P:eK Z M h Z' aK h'):∀{l:V}{us:List (aa×aa)},VK X h Z M l us->VK X h' Z' aK l us:=by
 intro l
 induction l with
 |nil=>intro us q;exact q
 |kv k v r _ _ ih=>intro us q;refine kX q λa b t e q1 q2 q3=>?_;clear q;exact jh a b t e (VR.mono P k q1) (VR.mono P v q2) (ih q3)
 |_=>intro us q;exact eY q
theorem IY{t k:S}{z r:V}:qY t (.kv (.str k) z r)=(sEq k t||qY t r):=by
 show(@Bool.rec (λY=>Bool) (qY t r) true (sEq k t))=_
 cases sEq k t<;>rfl
theorem IZ{t k:Int}{z r:V}:qZ t (.kv (.int k) z r)=(rX k t||qZ t r):=by
 show(@Bool.rec (λY=>Bool) (qZ t r) true (rX k t))=_
 cases rX k t<;>rfl
noncomputable def Qa:List (aa×aa)->List (Str×aa)
 | [] =>[]
 |(k,v)::r=>((match k with|.str x _=>x|_=>mkStr []),v)::Qa r
noncomputable def Tj:List (aa×aa)->List (Int×aa)
 | [] =>[]
 |(k,v)::r=>((match k with|.int x _=>x|_=>0),v)::Tj r
theorem I0:∀{l:V}{us:List (aa×aa)},DK l=true->VK X h Z M l us->Carries (strKind X.prog X.w) us (Qa us)/\((Qa us).map (·.1)).Nodup/\(∀t,mkStr t∈(Qa us).map (·.1)->qY t l=true/\xT l t)/\
  ∀f:Str->Option aa,(∀p∈Qa us,f p.1=some p.2)->BR X h Z M l f:=by
 intro l
 induction l with
 |nil=>intro us _ q;subst q;exact ib trivial jw (λt ht=>(by cases ht)) (λY Y=>trivial)
 |kv k z r _ _ ih=>
  intro us nd q;refine kX q λa b t vM q1 q2 q3=>?_;clear q;subst vM
  induction k using V.casesOn with
  |str k=>
   have nd:(@Bool.rec (λY=>Bool) (DK r) false (qY k r))=true:=nd;refine cBool (qY k r) (λhk=>?_) (λhk=>?_);rotate_left
   ·rw[hk] at nd;exact absurd nd nT
   ·rw[hk] at nd;refine mG (ih nd q3) λYh Yi I1 Yj=>?_;refine bc q1 λtk i5=>?_;clear q1;subst i5;refine(ib (bL (xZ _ _) rfl Yh) ?_ (λt' ht=>?_) (λf hf=>⟨(aQ b (hf _ aW) q2),Yj f λp hp=>hf p (aP _ hp)⟩))
    ·show(_::_).Nodup;rw[gW];exact⟨λm=>(by rw[(I1 k m).1] at hk;exact absurd hk nF),Yi⟩
    ·refine ah IY ?_;refine gu (aR.mp ht) (λe=>?_) λm=>?_
     ·have e:t'=k:=xm e;subst e;exact⟨by rw[fP];simp,.inl rfl⟩
     ·exact⟨by rw[(I1 t' m).1,tS],.inr (I1 t' m).2⟩
  |_=>exact absurd nd nT
 |_=>intro us nd;exact absurd nd nT
theorem Qb:∀{l:V}{us:List (aa×aa)},Mb l=true->VK X h Z M l us->Carries (intKind X.prog X.w) us (Tj us)/\((Tj us).map (·.1)).Nodup/\(∀t,t∈(Tj us).map (·.1)->qZ t l=true/\pC l t)/\
  ∀f:Int->Option aa,(∀p∈Tj us,f p.1=some p.2)->o8 X h Z M l f:=by
 intro l
 induction l with
 |nil=>intro us _ q;subst q;exact ib trivial jw (λt ht=>(by cases ht)) (λY Y=>trivial)
 |kv k z r _ _ ih=>
  intro us nd q;refine kX q λa b t Yk q1 q2 q3=>?_;clear q;subst Yk
  induction k with
  |int k=>
   have nd:(@Bool.rec (λY=>Bool) (Mb r) false (qZ k r))=true:=nd;refine cBool (qZ k r) (λhk=>?_) (λhk=>?_);rotate_left
   ·rw[hk] at nd;exact absurd nd nT
   ·rw[hk] at nd;refine mG (ih nd q3) λYl Ym I2 Yn=>?_;refine bc q1 λtk vK=>?_;clear q1;subst vK;refine(ib (bL (vB _ _) rfl Yl) ?_ (λt' ht=>?_) (λf hf=>⟨(aQ b (hf _ aW) q2),Yn f λp hp=>hf p (aP _ hp)⟩))
    ·show(_::_).Nodup;rw[gW];exact⟨λm=>(by rw[(I2 k m).1] at hk;exact absurd hk nF),Ym⟩
    ·refine ah IZ ?_;refine gu (aR.mp ht) (λe=>?_) λm=>?_
     ·subst e;exact⟨by rw[iG];simp,.inl rfl⟩
     ·exact⟨by rw[(I2 t' m).1,tS],.inr (I2 t' m).2⟩
  |_=>exact absurd nd nT
 |_=>intro us nd;exact absurd nd nT
theorem VK.len:∀{l:V}{us:List (aa×aa)},VK X h Z M l us->aO l=us.length:=by
 intro l
 induction l with
 |nil=>intro us q;subst q;rfl
 |kv k v r _ _ ih=>intro us q;refine kX q λa b t IW Y Y q3=>?_;clear q;subst IW;exact congrArg aZ (ih q3)
 |_=>intro us q;exact eY q
theorem oI{H:Type}[DecidableEq H] :∀{gh:List (H×aa)},(gh.map (·.1)).Nodup->∀p∈gh,valueAt gh p.1=some p.2:=by
 intro zr
 induction zr with
 |nil=>
  exact @λ_ p hp=>by cases hp
 |cons q gh bN=>
  exact @λnd p hp=>by
   rw[dB,gW] at nd;unfold valueAt;refine ah (qx) ?_;refine gu (aR.mp hp) (λx8=>?_) λkf=>?_
   ·subst x8;simp
   ·have qk:¬q.1=p.1:=λe=>nd.1 (e▸t8 kf);refine ah (decide_eq_false qk) ?_;exact bN nd.2 p kf
theorem oJ{H:Type}[DecidableEq H]{gh:List (H×aa)}{k:H}{u:aa}(h:valueAt gh k=some u):k∈gh.map (·.1):=by
 unfold valueAt at h;refine aL ((zP.mp h)) λp Qc acI=>?_
 have:=List.find?_some Qc;rw[decide_eq_true_iff] at this;exact this▸t8 (zt Qc)
noncomputable def Ga(env:PySem.Env)(pos:Pos):List (Option PySem.Expr)->List PySem.Expr->List (Sem aa×Sem aa)
 |some k::ks,v::vs=>(eval k env,do let x←eval v env;standAt pos;pure x)::Ga env pos ks vs
 |_,_=>[]
noncomputable def Ed(X:Cx)(n:Nat)(nm:Nm)(ks:List (Option PySem.Expr))(vs:List PySem.Expr)(c:C):Prop:=(∀env pos,(evalEachOpt ks env).zip ((evalEach vs env).map λv=>do let x←v;standAt pos;pure x)=(Ga env pos ks vs).map λp=>(some p.1,p.2))/\
 (∀env pos,(Ga env pos ks vs).length=ks.length)/\∀K,KS X n K->∀E B l ao,c K E B=.ok l ao->Ok ao->Ok B/\
 ∀env A N M s pos,env.scope.names=nm->Rm n A->Fe N env->Rd X N M s B->Rn X env E N M s.heap->wpAny (model X.prog X.w) A (evalPairs (Ga env pos ks vs)) (λus s'=>∃aK,Gw M s aK s'/\R0 X ao.bk N aK s'.heap/\VK X s'.heap (N++foot aK) aK l us) E0 s
theorem Tn:Ed X n nm [] [] B5:=⟨λY Y=>rfl,λY Y=>rfl,λK hK E B l ao e h=>by
 injection e with g1 g2;subst g1;subst g2;exact⟨h,λenv A N M s pos Y Y f rd rn=>evalPairs_nil (bS M Gw.refl rd rfl)⟩⟩
theorem M5{k v:PySem.Expr}{ks:List (Option PySem.Expr)}{vs:List PySem.Expr}{a b r:C}(ha:Es X n nm k a)(hb:Es X n nm v b)(hr:Ed X n nm ks vs r):Ed X n nm (some k::ks) (v::vs) (DG a b r):=by
 refine c_ hr λYo Yp Yq=>?_;clear hr;refine(bL (λenv pos=>?_) (λenv pos=>congrArg aZ (Yp env pos)) (λK hK E B l ao h o=>?_))
 ·show((some (eval k env),_)::List.zip _ _)=_;exact congrArg (cf _) (Yo env pos)
 refine eQ λkk=>?_;refine a6 ((a7 h)) λx μ₁ IL Eg=>?_;refine a6 ((a7 Eg)) λy aE Yr Ys=>?_;refine a6 (a7 Ys) λz dp h3 h4=>?_;injection h4 with g1 g2;subst g1;subst g2
 refine aD (Yq K hK E aE z _ h3 o) λo2 g3=>?_;refine aD (hb K hK E μ₁ y aE Yr o2) λTo Tp=>?_;refine aD (ha K hK E B x μ₁ IL To) λCE yd=>?_;refine kk ?_;refine⟨CE,λenv A N M s pos hn rm f rd rn=>evalPairs_cons (Pe.go (H:=aa) (t:=eval k env) f rd rn (yd env A N M s hn rm f rd rn) λu az aw k1 cj fu q1=>?_)⟩;refine ax (Pe.go (H:=aa) (t:=eval v env) f cj fu (Tp env A N az aw hn rm f cj fu) λu' aN s₂ k2 eh gP q2=>ax (e7 (aX ?_)));refine aA (g3 env A N aN s₂ pos hn rm f eh gP) (λus cR Yt=>?_) λY Y e=>e;refine bQ Yt λcI k3 kA q3=>?_;clear Yt;exact⟨cI,(k1.trans k2).trans k3,kA,u,u',us,rfl,(q1.up k2).up k3,q2.up k3,q3⟩
theorem p_{a:ag}(sb:∀b o,b≠a->h.get? b=some o->h'.get? b=some o):eK ((a::N)++foot M) M h (N++foot (M++[.one a])) (M++[.one a]) h':=
 ⟨λb o n e=>sb b o (λq=>n (by refine ah q ?_;exact a0 _ aW)) e,λb m n=>by
  rw[gL] at m;refine gu (bp.mp m) (λm=>?_) λm=>?_
  ·exact absurd (a0 _ (aP _ m)) n
  ·refine gu (bp.mp m) (λm=>?_) λm=>?_
   ·exact absurd (bD _ m) n
   ·simp only[foot,lI,List.flatMap_nil,Lc.foot,cM,aV] at m;exact absurd (by refine ah m ?_;exact a0 _ aW) n,λi q e=>by refine ah (lD (cA.mp e).1) ?_;exact e⟩
theorem R0.adopt{I:List O}{a:ag}{o:O}(r:R0 X I (a::N) M h)(hN:a∉N)(sb:∀b o,b≠a->h.get? b=some o->h'.get? b=some o)(q:OR X h' (N++foot (M++[.one a])) (M++[.one a]) o (.one a)):R0 X (mE I o) N (M++[.one a]) h':=by
 have na:a∉foot M:=λm=>r.apart a m aW;have fe:foot (M++[.one a])=foot M++[a] :=by rw[gL];simp[foot,Lc.foot]
 have ba:X.base.get? a=none:=r.low a (a0 _ aW);refine⟨λb o e=>sb b o (λq=>by rw[q,ba] at e;(injection e)) (r.base b o e),(SR.gen (p_ sb) (λp hp b hb o e=>sb b o (λq=>?_) e) r.bk).app q,?_,λb m=>?_,λb m=>?_,λb m=>?_⟩
 ·obtain⟨i,Tt,Tu⟩:=(jP hp);exact na (q▸dO (i:=i) (ah (eZ Tt) (ah Tu rfl)) hb)
 ·rw[fe,iN];exact⟨r.nodup,by simp,λx hx y hy e=>na (by rw[aV] at hy;rw[←hy,←e];exact hx)⟩
 ·rw[fe] at m;refine gu (bp.mp m) (λm=>?_) λm=>?_
  ·exactλn=>r.apart b m (aP _ n)
  ·rw[aV] at m;refine ah m ?_;exact hN
 ·rw[fe] at m;refine gu (bp.mp m) (λm=>?_) λm=>?_
  ·exact r.low b (a0 _ (aP _ m))
  ·refine gu (bp.mp m) (λm=>?_) λm=>?_
   ·exact r.low b (bD _ m)
   ·rw[aV] at m;refine ah m ?_;exact ba
 ·refine bc (r.live b (aP _ m)) λo e=>?_;exact⟨o,sb b o (λq=>hN (q▸m)) e⟩
theorem Fe.more{N':List ag}(f:Fe N env)(k:∀a∈N,a∈N'):Fe N' env:=⟨f.fn,f.gl,f.bl,k _ f.loc,λx c hc=>⟨k _ (f.cell x c hc).1,(f.cell x c hc).2⟩,f.XR,f.P_⟩
theorem Rn.add{L:List ag}(f:Fe N env)(r:Rn X env E N M h)(k:All h h')(hf:∀a∈L,h.get? a=none):Rn X env E (L++N) M h':=by
 have P:=oF (N:=N) (M:=M) k hf;obtain⟨⟨m,h1,h2⟩,h3,h4⟩:=r;refine⟨(aQ m (h1.at (k _)) (λx v a b c=>let ⟨u,d,q⟩:=h2 x v a b c;(aQ u d (VR.mono P v q)))),λx c hc=>?_,λx v a b c=>?_⟩
 ·refine a6 ((h3 x c hc)) λtb o Tv Tw=>?_;exact bA tb o (k c o Tv) Tw
 ·refine eQ λkk=>?_;refine bJ (h4 x v a b c) λc u hc I3 q=>?_;refine aL I3 λo ho hd=>?_;refine kk ?_;clear I3;exact dy c u hc (aQ o (k c o ho) hd) (VR.mono P v q)
theorem En{l:V}(e:Q9 l B=.ok x ao):jg (.dict l) B=.ok x ao/\(DK l=true∨Mb l=true/\DK l=false):=by
 have e:(@Bool.rec (λY=>RE) (@Bool.rec (λY=>RE) RE.no (jg (.dict l) B) (Mb l)) (jg (.dict l) B) (DK l))=.ok x ao:=e;refine cW (DK l) (λa=>?_) (λa=>?_);rotate_left
 ·rw[a] at e;exact⟨e,.inl rfl⟩
 ·rw[a] at e;refine cW (Mb l) (λb=>?_) (λb=>?_);rotate_left
  ·rw[b] at e;exact⟨e,.inr ⟨rfl,rfl⟩⟩
  ·rw[b] at e;exact j9 e
theorem tD(rd:R0 X B.bk N M h)(hb:(X.base.get? sysModules).isSome=true){a:ag}(ha:h.get? a=none):(a==sysModules)=false:=by
 rw[beq_eq_false_iff_ne];intro e;refine bc (uu.mp hb) λo ho=>?_;rw[e,rd.base _ _ ho] at ha;injection ha
end
set_option backward.match.sparseCases true
section
variable{prog:Program}{w:aY}{K:Type}[DecidableEq K]{knd:KeyKind prog w K}{A:aM}{acW:aa->aj->Prop}{s:aj}
theorem Yu{d:ag}{gh:List (K×aa)}{k:K}{key v:aa}{Q:Unit->aj->Prop}(Gb:knd.is k key=true)(hm:s.heap.DictOf knd d gh)
  (hQ:∀h',h'.DictOf knd d (stored gh k v)->jD d s.heap h'->Q () {s with heap:=h'}) (hsz:gh.length≤sizeLine):wpAny (model prog w) A (dictPut d (knd.hash k) key v) Q acW s:=by
 refine Rc hm λo es ep ho hc hd hk hp hn=>?_;have hes:es.size≤sizeLine:=by refine eV d6 (ah hp.length ?_);exact hsz
 have Yv:(es.findIdx? λe=>knd.is k e.key)=gh.findIdx? λkv=>decide (kv.1=k):=by refine eV (hp.findIdx k) ?_;obtain⟨l⟩:=es;simp
 refine ax (wpAny_dictFind_of Gb ho hd hk ?_)
 cases hi:es.findIdx? λe=>knd.is k e.key with
 |some i=>
  refine wpAny_updateDict ho hd (hQ _ (Rg _ _ ep (uN _ ho (zW (Obj.data_mapDict hd _))) (hc.mapDict _) (Obj.data_mapDict hd _) (hk.modify _ _) ?_ ?_) (uP ..))
  all_goals rw[stored,if_pos (any_of_findIdx_some (Yv▸hi))]
  ·have hl:(es.toList.findIdx? λe=>knd.is k e.key)=some i:=by refine eV hi ?_;obtain⟨l⟩:=es;simp
   have:=hp.modify hn hl v;obtain⟨l⟩:=es
   simpa using this
  ·rw[keys_map_store];exact hn
 |none=>
  have Yw:k∉gh.map (·.1):=not_mem_of_findIdx_none (Yv▸hi)
  have abx:¬(gh.any λkv=>decide (kv.1=k))=true:=λh=>by
   refine aL (lJ.mp h) λkv VY he=>?_;exact Yw (dC.mpr (aQ kv VY (of_decide_eq_true he)))
  refine wpAny_updateDictKeys (hz:=hes) ho hd (hQ _ (Rg _ _ (ep+1) (uN _ ho (zW (zX hd _))) (hc.mapDictKeys _) (zX hd _) (hk.push Gb _) ?_ ?_) (uP ..))
  all_goals rw[stored,if_neg abx]
  ·have:=hp.append Gb (knd.hash k) v;obtain⟨l⟩:=es
   simpa using this
  ·rw[gq,iN];exact⟨hn,by simp,λa ha b hb e=>Yw (by rw[dB,nW,aV] at hb;have e':a=k:=e.trans hb;exact e'▸ha)⟩
theorem M6{d o:ag}{gh more:List (K×aa)}{Q:Unit->aj->Prop}(hdo:d≠o)(hoS:(o==sysModules)=false)(h0:gh≠ [])(hd:s.heap.DictOf knd d gh)(ho:s.heap.DictOf knd o more)
  (hQ:∀h',h'.DictOf knd d (merged gh more)->jD d s.heap h'->Q () {s with heap:=h'}) (hsz:gh.length+more.length≤sizeLine):wpAny (model prog w) A (mergeMapping d (.ref o) false) Q acW s:=by
 refine eQ λkk=>?_;refine Rc (id ho) λoo Gd epo hoo hco M7 hko Eo BU=>?_;refine Rc (id hd) λod esd epd Qd Yx hdd hkd hpd hnd=>?_;refine kk ?_;have hlen:more.length=Gd.size:=eV Eo.length (ah d6 rfl);unfold mergeMapping;refine ax (wpAny_isInstance ho.typeIs isSubtype_dict_dict (ax (uB ho.typeIs F.slot_dict_iter.lookup (ax (aX ?_)))));rw[beq_self_eq_true];dsimp only;refine ah hoS ?_;rw[if_neg nT];refine ax (uD Qd hdd ?_)
 have he:esd.isEmpty=false:=by
  refine cW (esd.isEmpty) (λe=>?_) (λe=>?_)
  ·rfl
  ·exact absurd (zv.mp (by refine eV hpd.length (ah (ny.mp e) ?_);rfl)) h0
 refine ah he ?_;rw[if_neg nT];refine ax (uD hoo M7 (ax (wpAny_dictEpoch hoo M7 ?_)));refine ax ?_
 refine wpAny_forIn_list _ (λrest Y s'=>∃h' i,s'={s with heap:=h'}/\rest=e6 i (Gd.size - i)/\i≤Gd.size/\h'.DictOf knd d (merged gh (more.take i))/\h'.get? o=some oo/\jD d s.heap h') _ ?_ ?_ _ _
  ⟨s.heap,0,rfl,by refine ah t9 ?_;rfl,fN _,by refine ah jQ ?_;exact hd,hoo,zV _ _⟩
 ·intro x rest b s' pD;refine FR pD λh' i gY hr hi yg Tx bC=>?_;clear pD;subst gY
  have hW:i<Gd.size:=by
   rcases uo i Gd.size with h|h
   ·exact h
   ·rw[Nat.sub_eq_zero_of_le h] at hr;(injection hr)
  rw[show Gd.size - i=(Gd.size - (i+1))+1 by omega,lG] at hr;injection hr with h1 h2
  subst h1;refine ax (uD Tx M7 ?_);refine ah (Array.getElem?_eq_getElem hW) ?_;obtain⟨kv,VY⟩:∃kv,more[x]? =some kv:=⟨more[x]'(by refine ah hlen ?_;exact hW),eZ _⟩;refine aD (Eo.get? (e:=Gd[x]) (by simp[hW]) VY) λGb aby=>?_;refine aL (hko Gd[x] (Array.getElem_mem hW)) λk' Yy Yz=>?_;obtain rfl:k'=kv.1:=knd.inj _ _ _ Yy Gb;dsimp only;refine ah Yz (ah aby ?_)
  have hmx:(merged gh (more.take x)).length≤sizeLine:=by
   have e1:=qM gh (more.take x);have e2:(more.take x).length≤more.length:=by refine ah gp ?_;lia
   lia
  refine ax (eD (Yu Gb yg (λh'' abz YA=>?_) hmx));have Qe:h''.get? o=some oo:=(YA.2 o (jC hdo)).trans Tx;refine ax (wpAny_dictEpoch Qe M7 ?_);refine ah (if_neg (by simp)) ?_;exact aX ⟨h'',x+1,rfl,h2,hW,by refine ah (merged_take_succ gh more x kv VY) ?_;exact abz,Qe,bC.trans YA⟩
 ·intro b s' vP;refine FR vP λh' i fF hr hi yg Tx bC=>?_;clear vP;subst fF
  have hin:i=Gd.size:=by
   rcases uo i Gd.size with h|h
   ·rw[show Gd.size - i=(Gd.size - (i+1))+1 by omega,lG] at hr;(injection hr)
   ·exact qF hi h
  refine aX (hQ h' ?_ bC);rw[hin,←hlen,lE] at yg;exact yg
end
set_option backward.match.sparseCases false
section
variable{X:Cx}{n:Nat}{nm:Nm}{A:aM}{N:List ag}{M aK:List Lc}{s s' ru:aj}{v w x l l₂ M8:V}{u u':aa}{B ao μ₁:Mm}{env:PySem.Env}{E:Env}{h h':ay}{Z Z':List ag}
 {K':Type} [DecidableEq K'] {knd:PySem.KeyKind X.prog X.w K'} {nd:V->Bool} {ke:List (aa×aa)->List (K'×aa)}
noncomputable def Dl(X:Cx)(n:Nat)(nm:Nm):List (Option PySem.Expr)->List PySem.Expr->C->Prop
 | [],[],c=>c=B5
 |some k::ks,v::vs,c=>∃a b r,c=DG a b r/\Es X n nm k a/\Es X n nm v b/\Dl X n nm ks vs r
 |_,_,_=>False
theorem Dl.ed:∀{ks:List (Option PySem.Expr)}{vs:List PySem.Expr}{c:C},Dl X n nm ks vs c->Ed X n nm ks vs c
 | [],[],_,h=>h▸Tn
 |some k::ks,v::vs,_,h=>let ⟨_,_,_,e,h1,h2,h3⟩:=h;e▸M5 h1 h2 h3.ed
 | [],_::_,_,h=>h.elim
 |none::_,_,_,h=>h.elim
 |some _::_,[],_,h=>h.elim
noncomputable def VP(X:Cx)(h:ay)(Z:List ag)(M:List Lc)(l₂:V):List (aa×aa)->V->Prop
 | [],l=>l=l₂
 |p::us,l=>∃k v r,l=.kv k v r/\VR X h Z M k p.1/\VR X h Z M v p.2/\VP X h Z M l₂ us r
theorem VP.mono(P:eK Z M h Z' aK h'):∀{us:List (aa×aa)}{l:V},VP X h Z M l₂ us l->VP X h' Z' aK l₂ us l:=by
 intro us
 induction us with
 |nil=>intro l q;exact q
 |cons p us ih=>intro l q;refine kX q λk v r e q1 q2 q3=>?_;exact jh k v r e (VR.mono P k q1) (VR.mono P v q2) (ih q3)
theorem VP.vk{us':List (aa×aa)}(q':VK X h Z M l₂ us'):∀{us:List (aa×aa)}{l:V},VP X h Z M l₂ us l->VK X h Z M l (us++us'):=by
 intro us
 induction us with
 |nil=>intro l q;subst q;exact q'
 |cons p us ih=>intro l q;refine kX q λk v r vM q1 q2 q3=>?_;subst vM;exact jh p.1 p.2 (us++us') rfl q1 q2 (ih q3)
structure Kd(X:Cx){K':Type}[DecidableEq K'](knd:PySem.KeyKind X.prog X.w K')(nd:V->Bool)(ke:List (aa×aa)->List (K'×aa)):Prop where
 nil:ke [] =[]
 cons:∀k v r,nd (.kv k v r)=true->nd r=true/\∀h Z M a,VR X h Z M k a->∃t,knd.is t a=true/\∀b us,ke ((a,b)::us)=(t,b)::ke us
theorem Kd.app(kd:Kd X knd nd ke){us':List (aa×aa)}:∀{us:List (aa×aa)}{l:V},nd l=true->VP X h Z M l₂ us l->ke (us++us')=ke us++ke us'/\(ke us).length=us.length:=by
 intro us
 induction us with
 |nil=>intro l _ q;refine ah kd.nil ?_;exact⟨rfl,rfl⟩
 |cons p us ih=>
  intro l nd q;refine eQ λkk=>?_;refine kX q λk v r HW q1 q2 q3=>?_;subst HW;refine aD (kd.cons k v r nd) λn1 c=>?_;refine aL (c _ _ _ _ q1) λt Y c=>?_;refine aD (ih n1 q3) λe1 e2=>?_;refine kk ?_;have a1:ke (p::us++us')=(t,p.2)::ke (us++us'):=c p.2 (us++us');have a2:ke (p::us)=(t,p.2)::ke us:=c p.2 us;refine ah a1 (ah a2 (ah e1 ?_));exact⟨rfl,congrArg aZ e2⟩
theorem kdS:Kd X (strKind X.prog X.w) DK Qa:=⟨rfl,λk v r e=>by
 induction k using V.casesOn with
 |str k=>
  have e:(@Bool.rec (λY=>Bool) (DK r) false (qY k r))=true:=e;refine cBool (qY k r) (λhk=>?_) (λhk=>?_);rotate_left
  ·rw[hk] at e;exact nomatch e
  ·rw[hk] at e;exact⟨e,λh Z M a q=>by refine bc q λtk vS=>?_;subst vS;exact(aQ _ (xZ _ _) (λY Y=>rfl))⟩
 |_=>exact nomatch e⟩
theorem kdI:Kd X (intKind X.prog X.w) Mb Tj:=⟨rfl,λk v r e=>by
 induction k with
 |int k=>
  have e:(@Bool.rec (λY=>Bool) (Mb r) false (qZ k r))=true:=e;refine cBool (qZ k r) (λhk=>?_) (λhk=>?_);rotate_left
  ·rw[hk] at e;exact nomatch e
  ·rw[hk] at e;exact⟨e,λh Z M a q=>by refine bc q λtk AB=>?_;subst AB;exact(aQ _ (vB _ _) (λY Y=>rfl))⟩
 |_=>exact nomatch e⟩
theorem vU{K:Type}[DecidableEq K](a b c:List (K×aa)):merged (merged a b) c=merged a (b++c):=by unfold merged;exact ah List.foldl_append rfl
noncomputable def Ps(X:Cx){K':Type}[DecidableEq K'](knd:PySem.KeyKind X.prog X.w K')(ke:List (aa×aa)->List (K'×aa))(env:PySem.Env)(E:Env)(N:List ag)(d:ag)(acc:List (K'×aa))(m:Nat)(M:List Lc)(s:aj)(l l₂:V)(μ₁:Mm)(s':aj):Prop:=
 ∃aK us,Gs [d] M s aK s'/\R0 X μ₁.bk (d::N) aK s'.heap/\Rn X env E (d::N) aK s'.heap/\VP X s'.heap ((d::N)++foot aK) aK l₂ us l/\s'.heap.DictOf knd d (merged acc (ke us))/\us.length=m
theorem Rn.toN{N':List ag}(r:Rn X env E N M h)(P:eK (N++foot M) M h (N'++foot aK) aK h')(k:∀b∈own env,∀o,h.get? b=some o->h'.get? b=some o):Rn X env E N' aK h':=by
 obtain⟨⟨m,h1,h2⟩,h3,h4⟩:=r;refine⟨(aQ m (h1.at (k _ aW)) (λx v a b c=>let ⟨u,d,q⟩:=h2 x v a b c;(aQ u d (VR.mono P v q)))),λx c hc=>?_,λx v a b c=>?_⟩
 ·refine a6 (h3 x c hc) λtb o ho hd=>?_;exact bA tb o (k c (aP _ (dC.mpr (aQ _ (f_ hc) rfl))) o ho) hd
 ·refine eQ λkk=>?_;refine bJ (h4 x v a b c) λc u hc I4 q=>?_;refine aL I4 λo ho hd=>?_;refine kk ?_;clear I4;exact dy c u hc (aQ o (k c (aP _ (dC.mpr (aQ _ (f_ hc) rfl))) o ho) hd) (VR.mono P v q)
theorem DictOf.live{d:ag}{acc:List (K'×aa)}(h:s.heap.DictOf knd d acc):∃o,s.heap.get? d=some o:=let ⟨o,_,_,ho,_⟩:=h;⟨o,ho⟩
theorem R0.at_{I:List O}{d:ag}(r:R0 X I (d::N) M h)(sb:jD d h h')(l:∃o,h'.get? d=some o):R0 X I (d::N) M h':=
 r.chg (λb o n e=>(sb.2 b λq=>n (q▸aW)).trans e) λb m=>by
  by_cases q:b=d
  ·exact q▸l
  ·refine bc (r.live b m) λo e=>?_;exact⟨o,(sb.2 b q).trans e⟩
theorem Gs.at_{d:ag}{k:Nat}(sb:jD d s.heap h'):Gs [d] M s M {s with heap:=h',toks:=k}:=
 ⟨λb o Y m e=>(sb.2 b λq=>m (q▸aW)).trans e,λb m n=>absurd m n,λY Y e=>e,rfl,rfl⟩
theorem Rn.gs{I:List O}{d:ag}(f:Fe N env)(hd:d∉N)(rd:R0 X I (d::N) M s.heap)(rn:Rn X env E (d::N) M s.heap)(g:Gs [d] M s aK s'):Rn X env E (d::N) aK s'.heap:=
 rn.toN (Gs.hS (λb m=>by rw[aV] at m;exact m▸aW) g) λb m o e=>g.keep b o (rd.gone (aP _ (fA f m))) (λq=>hd (by rw[aV] at q;exact q▸fA f m)) e
theorem oK{d:ag}:∀b∈ [d],b∈d::N:=λb m=>by rw[aV] at m;exact m▸aW
theorem Gs.VZ{I:List O}{d:ag}{az aN:List Lc}{aw s₂:aj}(l:∃o,s.heap.get? d=some o)(rd:R0 X I (d::N) az aw.heap)(a:Gs [d] M s az aw)(b:Gs [d] az aw aN s₂):Gs [d] M s aN s₂:=
 Gs.trans (λb m=>rd.gone (oK b m)) (λb m=>rd.live b (oK b m)) (λb m=>by rw[aV] at m;exact m▸l) a b
theorem road{K:Kc}(kd:Kd X knd nd ke)(hK:KS X n K):∀(m:Nat){ks:List (Option PySem.Expr)}{vs:List PySem.Expr}{c:C},Dl X n nm ks vs c->m≤ks.length->∀{E:Env}{B:Mm}{l:V}{ao:Mm},c K E B=.ok l ao->Ok ao->nd l=true->
  Ok B/\∃acY l₂ μ₁,acY K E μ₁=.ok l₂ ao/\Dl X n nm (ks.drop m) (vs.drop m) acY/\nd l₂=true/\∀env A N M s pos d acc,env.scope.names=nm->Rm n A->Fe N env->d∉N->R0 X B.bk (d::N) M s.heap->Rn X env E (d::N) M s.heap->s.heap.DictOf knd d acc->acc.length+m≤sizeLine->
   wpAny (model X.prog X.w) A (forIn ((Ga env pos ks vs).take m) uy λ(x:Sem aa×Sem aa) (Y:PUnit)=>(do let kv←x.1;let vv←holding [kv] x.2;holding [kv,vv] (dictSet d kv vv);pure (nJ uy):Sem (ForInStep PUnit))) (λY s'=>Ps X knd ke env E N d acc m M s l l₂ μ₁ s') E0 s:=by
 intro m
 induction m with
 |zero=>
  intro ks vs c hl _ E B l ao e o nl;refine⟨(hl.ed.2.2 K hK E B l ao e o).1,c,l,B,e,hl,nl,λenv A N M s pos d acc hn rm f hd rd rn da Y=>?_⟩;refine ah jQ (ah List.forIn_nil ?_);exact aX ⟨M,[],Gs.refl,rd,rn,rfl,by refine ah kd.nil ?_;exact da,rfl⟩
 |succ m ih=>
  intro ks vs c hl hm E B l ao e o nl
  match ks,vs,hl,hm with
  |some k::ks,v::vs,hl,hm=>
   refine eQ λkk=>?_;refine kX hl λa b r Tz ha hb hr=>?_;subst Tz;refine a6 (a7 e) λx μ₁ h1 e1=>?_;refine a6 (a7 e1) λy aE h2 e2=>?_;refine a6 (a7 e2) λz dp h3 h4=>?_;injection h4 with g1 g2;subst g1;subst g2
   refine aD (kd.cons x y z nl) λnz kc=>?_;obtain⟨o2,acY,l₂,gM,i1,i2,i3,i4⟩:=ih hr (zM hm) h3 o nz;refine aD (hb K hK E μ₁ y aE h2 o2) λo1 g2=>?_;refine aD (ha K hK E B x μ₁ h1 o1) λo0 g1=>?_;refine kk ?_;refine⟨o0,acY,l₂,gM,i1,i2,i3,λenv A N M s pos d acc hn rm f hd rd rn da hz=>?_⟩;have f':Fe (d::N) env:=f.more λa m=>aP _ m;show wpAny _ A (forIn ((eval k env,(do let x←eval v env;standAt pos;pure x))::(Ga env pos ks vs).take m) uy _) _ _ _;rw[nX];refine ax (ax (Pe.go (H:=aa) (t:=eval k env) f' rd rn (g1 env A _ M s hn rm f' rd rn) λu az aw k1 cj fu q1=>?_));refine ax (eD (ax (Pe.go (H:=aa) (t:=eval v env) f' cj fu (g2 env A _ az aw hn rm f' cj fu) λu' aN s₂ k2 eh gP q2=>ax (e7 (aX ?_)))));refine aL (kc _ _ _ _ q1) λt ht hke=>?_;have k12:=k1.trans k2;have da2:=da.at λo e=>k12.keep d o (rd.gone aW) e;refine ax (eD (wpAny_dictSet_pairs (hsz:=by exact bb (iR _ _) (by assumption)) ht da2 λh' dh sb=>aX ?_));have l3:=DictOf.live (s:={s₂ with heap:=h',toks:=s₂.toks+1}) dh;have g3:Gs [d] aN s₂ aN {s₂ with heap:=h',toks:=s₂.toks+1}:=Gs.at_ sb;have kA:=eh.at_ sb l3;have g13:Gs [d] M s aN {s₂ with heap:=h',toks:=s₂.toks+1}:=Gs.VZ (DictOf.live da) eh k12.gs g3;refine aA (i4 env A N aN {s₂ with heap:=h',toks:=s₂.toks+1} pos d _ hn rm f hd kA (gP.gs f hd eh g3) dh (by have:=stored_length_le acc t u';lia)) (λY tc p=>?_) λY Y e=>e;refine FR p λEp us g4 Hg rn4 q4 d4 hu=>?_;have P:=Gs.hS (N:=d::N) oK g3;have P':=Gs.hS (N:=d::N) oK g4;refine(abb Ep ((u,u')::us) (Gs.VZ (DictOf.live da) kA g13 g4) Hg rn4 (jh x y z rfl (VR.mono P' x (VR.mono P x (VR.mono k2.hS x q1))) (VR.mono P' y (VR.mono P y q2)) q4) ?_ (congrArg aZ hu));rw[hke];exact d4
end
set_option backward.match.sparseCases true
noncomputable abbrev SP:=Sem aa×Sem aa
noncomputable def FL(d:ag)(run:List SP):Sem (Option ag):=do
 let sub←holding [.ref d] (subDict run)
 (holding [.ref d,.ref sub] (mergeMapping d (.ref sub) false)).onRaise λx=>do let _←holding [.ref d,x] (runValue (.builtin "proto.let_go" {}))
 return some d
noncomputable def FM(run:List SP):Option ag->Sem (Option ag)
 |none=>do return some (←subDict run)
 |some d=>FL d run
theorem TA:∃f:(Option (Sem aa)×Sem aa)->Option ag×List SP->Sem (ForInStep (Option ag×List SP)),
  (∀(p:SP) main(run:List SP),run.length+1≠17->f (some p.1,p.2) (main,run)=pure (.yield (main,run++[p])))/\
  (∀(p:SP) main(run:List SP),run.length+1=17->f (some p.1,p.2) (main,run)=(do let m←FM (run++[p]) main;pure (.yield (m,[]))))/\
  ∀items,dictDisplay items=(do let s←forIn items (none,[]) f;let m←(if s.2.isEmpty then pure s.1 else FM s.2 s.1);match m with|some d=>pure (.ref d)|none=>newDict):=by
 refine(bS ?f ?a ?b ?c)
 case c=>intro items;unfold dictDisplay;dsimp only;rfl
 case a=>
  intro p main run e
  have:((run++[(p.1,p.2)]).length==17)=false:=by simpa using e
  dsimp only;refine ah this ?_;rfl
 case b=>
  intro p main run e
  have:((run++[(p.1,p.2)]).length==17)=true:=by simpa using e
  have e2:(run++[(p.1,p.2)]).isEmpty=false:=by induction run using bE<;>rfl
  dsimp only;rw[this,e2];rfl
theorem gather{f:(Option (Sem aa)×Sem aa)->Option ag×List SP->Sem (ForInStep (Option ag×List SP))}
  (h1:∀(p:SP) main(run:List SP),run.length+1≠17->f (some p.1,p.2) (main,run)=pure (.yield (main,run++[p])))
  (h2:∀(p:SP) main(run:List SP),run.length+1=17->f (some p.1,p.2) (main,run)=(do let m←FM (run++[p]) main;pure (.yield (m,[])))) (rest:List (Option (Sem aa)×Sem aa)) (main:Option ag):
  ∀(c run:List SP),c≠ [] ->(run.length+c.length=17->forIn ((c.map λp=>(some p.1,p.2))++rest) (main,run) f=(do let m←FM (run++c) main;forIn rest (m,[]) f))/\
   (run.length+c.length<17->forIn ((c.map λp=>(some p.1,p.2))++rest) (main,run) f=forIn rest (main,run++c) f):=by
 intro c
 induction c with
 |nil=>intro run h;exact absurd rfl h
 |cons p c ih=>
  intro run _;rw[dB,jx,nX,ey]
  induction c using bE with
  |nil=>exact⟨λe=>by rw[h2 p main run e,bind_assoc];simp,λe=>by rw[h1 p main run (qG e),pure_bind];rfl⟩
  |cons q c=>
   obtain⟨i1,i2⟩:=ih (run++[p]) (by simp);have l:(run++[p]).length=run.length+1:=by simp
   rw[l] at i1 i2;rw[bH] at i1 i2;rw[ey] at i1 i2 ⊢;exact⟨λe=>by rw[h1 p main run (by omega),pure_bind];exact i1 (by lia),λe=>by rw[h1 p main run (by omega),pure_bind];exact i2 (by omega)⟩
theorem YB{c1 c2 c3:List SP}(h1:c1.length=17)(h2:c2.length=17)(h3:c3.length<17)(h0:c3≠ []):dictDisplay ((c1++(c2++c3)).map λp=>(some p.1,p.2))=
  (do let m←FM c1 none;let m←FM c2 m;let m←FM c3 m;match m with|some d=>pure (.ref d)|none=>newDict):=by
 have n1:c1≠ [] :=λq=>by replace h1:=q▸h1;exact gr h1
 have n2:c2≠ [] :=λq=>by replace h2:=q▸h2;exact gr h2
 obtain⟨f,a,b,c⟩:=TA;rw[c,gq,gq,(gather a b _ _ c1 [] n1).1 ((d8 _).trans h1),bind_assoc];refine congrArg (λk=>FM c1 none >>= k) (funext λm=>?_);rw[(gather a b _ _ c2 [] n2).1 ((d8 _).trans h2),bind_assoc];refine congrArg (λk=>FM c2 m >>= k) (funext λm=>?_)
 have:=(gather a b [] m c3 [] h0).2 (by rw[qy,d8];exact h3);rw[cM] at this;rw[this,List.forIn_nil,pure_bind]
 induction c3 using bE with
 |nil=>exact absurd rfl h0
 |cons x c3=>rfl
section
variable{X:Cx}{n:Nat}{nm:Nm}{A:aM}{N:List ag}{M aK:List Lc}{s s' ru:aj}{v w x l l₂ M8:V}{u u':aa}{B ao μ₁:Mm}{env:PySem.Env}{E:Env}{h h':ay}{Z Z':List ag}
 {K':Type} [DecidableEq K'] {knd:PySem.KeyKind X.prog X.w K'} {nd:V->Bool} {ke:List (aa×aa)->List (K'×aa)}
noncomputable abbrev nw(s:aj):aj:={s with heap:=s.heap.push {cls:=.type "dict",data:=.dict #[] }}
theorem yh{b:ag}(hb:b∈ [s.heap.objs.size]):s.heap.get? b=none:=by rw[aV] at hb;refine ah hb ?_;exact bG _
theorem R0.nw{I:List O}(rd:R0 X I N M s.heap):R0 X I (s.heap.objs.size::N) M (nw s).heap:=
 rd.add (L:=[s.heap.objs.size]) (All.push _) (λb hb=>yh hb) λb hb=>by rw[aV] at hb;refine ah hb ?_;exact⟨_,bX _ rfl⟩
theorem Rn.nw(f:Fe N env)(rn:Rn X env E N M s.heap):Rn X env E (s.heap.objs.size::N) M (nw s).heap:=rn.add (L:=[s.heap.objs.size]) f (All.push _) λb hb=>yh hb
theorem R0.V0{I:List O}(rd:R0 X I N M s.heap):s.heap.objs.size∉N:=λm=>by refine bc (rd.live _ m) λo e=>?_;rw[bG] at e;exact nomatch e
noncomputable def Sb(X:Cx){K':Type}[DecidableEq K'](knd:PySem.KeyKind X.prog X.w K')(ke:List (aa×aa)->List (K'×aa))(env:PySem.Env)(E:Env)(N:List ag)(m:Nat)(M:List Lc)(s:aj)(l l₂:V)(μ₁:Mm)(d:ag)(s':aj):Prop:=
 d=s.heap.objs.size/\Ps X knd ke env E N d [] m M (nw s) l l₂ μ₁ s'
theorem rx:∀(m:Nat){ks:List (Option PySem.Expr)}{vs:List PySem.Expr}{c:C}{pos:Pos},Dl X n nm ks vs c->m≤ks.length->((Ga env pos ks vs).take m).length=m/\(Ga env pos ks vs).drop m=Ga env pos (ks.drop m) (vs.drop m)
 |0,_,_,_,_,_,_=>⟨rfl,rfl⟩
 |m+1,some k::ks,v::vs,_,_,hl,hm=>let ⟨_,_,_,_,_,_,h3⟩:=hl;let ⟨e1,e2⟩:=rx m h3 (zM hm);⟨congrArg aZ e1,e2⟩
 |_+1,[],_,_,_,_,hm=>absurd hm (zN _)
 |_+1,none::_,_,_,_,hl,_=>hl.elim
 |_+1,some _::_,[],_,_,hl,_=>hl.elim
theorem YC{K:Kc}(kd:Kd X knd nd ke)(hK:KS X n K){m:Nat}{ks:List (Option PySem.Expr)}{vs:List PySem.Expr}{c:C}(hl:Dl X n nm ks vs c)(h15:15<m)(h24:m≤17)(hm:m≤ks.length)(e:c K E B=.ok l ao)(o:Ok ao)(nl:nd l=true):
  Ok B/\∃acY l₂ μ₁,acY K E μ₁=.ok l₂ ao/\Dl X n nm (ks.drop m) (vs.drop m) acY/\nd l₂=true/\∀env A N M s pos,env.scope.names=nm->Rm n A->Fe N env->R0 X B.bk N M s.heap->Rn X env E N M s.heap->wpAny (model X.prog X.w) A (subDict ((Ga env pos ks vs).take m)) (Sb X knd ke env E N m M s l l₂ μ₁) E0 s:=by
 refine eQ λkk=>?_;refine aD (road kd hK m hl hm e o nl) λo0 kN=>?_;refine kX kN λacY l₂ μ₁ i1 i2 i3 i4=>?_;refine kk ?_;clear kN;refine⟨o0,acY,l₂,μ₁,i1,i2,i3,λenv A N M s pos hn rm f rd rn=>?_⟩;refine ax (wpAny_alloc (ax (eD ?_)));refine ah (if_neg (by rw[(rx m hl hm).1];exact Nat.not_le_of_lt (by assumption))) ?_;exact ax (wpAny_rule (ax (aA (i4 env A N M (nw s) pos _ [] hn rm f rd.V0 rd.nw (rn.nw f) (uO _) (by refine ah qy (ah qN ?_);lia)) (λY aw p=>aX (aX ⟨rfl,p⟩)) λY Y e=>e)))
theorem VP.ofK(kd:Kd X knd nd ke):∀{l:V}{us:List (aa×aa)},nd l=true->VK X h Z M l us->VP X h Z M .nil us l/\Carries knd us (ke us):=by
 intro l
 induction l with
 |nil=>intro us _ q;subst q;refine ah kd.nil ?_;exact⟨rfl,trivial⟩
 |kv k v r _ _ ih=>
  intro us nl q;refine eQ λkk=>?_;refine kX q λa b t vM q1 q2 q3=>?_;clear q;subst vM;refine aD (kd.cons k v r nl) λn1 kc=>?_;refine aD (ih n1 q3) λi1 i2=>?_;refine aL (kc _ _ _ _ q1) λt' ht hk=>?_;refine kk ?_;rw[hk];exact ib (jh k v r rfl q1 q2 i1) ht rfl i2
 |_=>intro us _ q;exact eY q
theorem YD{K:Kc}(kd:Kd X knd nd ke)(hK:KS X n K){ks:List (Option PySem.Expr)}{vs:List PySem.Expr}{c:C}(hl:Dl X n nm ks vs c)(h15:ks.length≤15)(e:c K E B=.ok l ao)(o:Ok ao)(nl:nd l=true):
  Ok B/\∀env A N M s pos,env.scope.names=nm->Rm n A->Fe N env->R0 X B.bk N M s.heap->Rn X env E N M s.heap->wpAny (model X.prog X.w) A (subDict (Ga env pos ks vs)) (Sb X knd ke env E N ks.length M s l .nil ao) E0 s:=by
 refine eQ λkk=>?_;refine c_ hl.ed λY ln hl=>?_;refine aD (hl K hK E B l ao e o) λo0 g=>?_;refine kk ?_;refine⟨o0,λenv A N M s pos hn rm f rd rn=>wpAny_subDict (knd:=knd) (by rw[ln];exact h15) ?_⟩;refine aA (wpAny_evalPairs_len (g env A (s.heap.objs.size::N) M (nw s) pos hn rm (f.more λa m=>aP _ m) rd.nw (rn.nw f))) (λus aw pD=>?_) λY Y e=>e;refine eQ λkk=>?_;refine aD pD λhu kO=>?_;clear pD;refine bQ kO λaz k1 cj q1=>?_;refine kk ?_;clear kO;have c1:=(VP.ofK kd nl q1).2;refine(bS (ke us) c1 ((uO s.heap).at λo e=>k1.keep _ _ (rd.nw.gone aW) e) (λh' dh sb=>⟨rfl,az,us,?_⟩));have l3:=DictOf.live (s:={aw with heap:=h'}) dh;have g3:Gs [s.heap.objs.size] az aw az {aw with heap:=h',toks:=aw.toks+us.length}:=Gs.at_ sb;have P:=Gs.hS (N:=s.heap.objs.size::N) oK g3;have fu:=(rn.nw f).gs f rd.V0 rd.nw (k1.gs (F:=[s.heap.objs.size]));exact WX (Gs.VZ (N:=N) ⟨_,bX _ rfl⟩ cj k1.gs g3) (cj.at_ sb l3) (fu.gs f rd.V0 cj g3) ((VP.ofK kd nl (q1.mono P)).1) dh (hu.trans (ln env pos))
end
section
variable{X:Cx}{n:Nat}{nm:Nm}{A:aM}{N:List ag}{M aK az:List Lc}{s s' ru aw:aj}{v w x l l₂ M8:V}{u u':aa}{B ao μ₁:Mm}{env:PySem.Env}{E:Env}{h h':ay}{Z Z':List ag}
 {K':Type} [DecidableEq K'] {knd:PySem.KeyKind X.prog X.w K'} {nd:V->Bool} {ke:List (aa×aa)->List (K'×aa)}
theorem xv:∀(b:List (K'×aa)){acc:List (K'×aa)},acc≠ [] ->merged acc b≠ [] :=by
 intro zr
 induction zr with
 |nil=>
  exact @λ_ h=>h
 |cons p b bN=>
  exact @λacc h=>bN (acc:=stored acc p.1 p.2) (by
   induction acc using bE with
   |nil=>exact absurd rfl h
   |cons q acc=>unfold stored;split<;>exact nofun)
theorem Gs.nw(g:Gs [s.heap.objs.size] M (nw s) aK s'):Gw M s aK s':=
 have al:All s.heap (Mine.Internal.nw s).heap:=All.push _
 ⟨λb o n e=>g.keep b o n (λm=>by rw[aV] at m;rw[m,bG] at e;(injection e)) (al b o e),λb m n=>by
  have:=g.fresh b m n
  match e:s.heap.get? b with
  |none=>rfl
  |some o=>replace this:=(al b o e)▸this;exact(nomatch this),g.pre,g.gens,g.os⟩
theorem Er(i8:(X.base.get? sysModules).isSome=true)(kd:Kd X knd nd ke){run:List SP}{d:ag}{acc:List (K'×aa)}{m:Nat}(f:Fe N env)(hd:d∉N)(rd:R0 X B.bk (d::N) M s.heap)(da:s.heap.DictOf knd d acc)(h0:acc≠ [])(hsz:acc.length+m≤sizeLine)(nl:nd l=true)
  (hs:wpAny (model X.prog X.w) A (subDict run) (Sb X knd ke env E (d::N) m M s l l₂ μ₁) E0 s):
  wpAny (model X.prog X.w) A (FM run (some d)) (λr s'=>r=some d/\∃aK us kv,Gs [d] M s aK s'/\R0 X μ₁.bk (d::N) aK s'.heap/\Rn X env E (d::N) aK s'.heap/\VP X s'.heap ((d::N)++foot aK) aK l₂ us l/\s'.heap.DictOf knd d kv/\kv≠ [] /\kv.length≤acc.length+m/\(((ke us).map (·.1)).Nodup->kv=merged acc (ke us))) E0 s:=by
 refine ax (eD (aA hs (λsub aw p=>?_) λY Y e=>e));refine aD p λI5 kN=>?_;clear p;subst I5;refine FR kN λaz us g cj fu q1 d1 hu=>?_;clear kN;have g':=g.nw;have da1:=da.at λo e=>g'.keep d o (rd.gone aW) e;have hdo:d≠s.heap.objs.size:=λq=>by refine bc (DictOf.live da) λo e=>?_;rw[q,bG] at e;(injection e)
 have le:=(kd.app (us':=[]) nl q1).2;have l1:=qM [] (ke us);have l2:=qM acc (merged [] (ke us));rw[le,hu,qy,d8] at l1;refine ax (wpAny_onRaise (eD (M6 hdo (tD rd i8 (bG s.heap)) h0 da1 d1 (λh' dh sb=>aX ?_) (bb (n6 l1 _) hsz))));have P:=mh (h:=aw.heap) (M:=az) (N:=d::N) (N':=s.heap.objs.size::d::N) λb m=>aP _ m;have eh:R0 X μ₁.bk (d::N) az aw.heap:=cj.less λb m=>aP _ m;have gP:Rn X env E (d::N) az aw.heap:=fu.toN P λY Y Y e=>e;have g3:Gs [d] az aw az {aw with heap:=h'}:=Gs.at_ sb;exact⟨rfl,az,us,_,Gs.VZ (DictOf.live da) eh g'.gs g3,eh.at_ sb (DictOf.live (s:={aw with heap:=h'}) dh),gP.gs f hd eh g3,(q1.mono P).mono (Gs.hS (N:=d::N) oK g3),dh,xv _ h0,bb l2 (n6 l1 _),λnn=>by exact ah (uE _ nn) rfl⟩
theorem OR.dS{us:List (aa×aa)}{a:ag}(hs:DK l=true)(q:VK X h Z M l us)(hd:h.DictOf (strKind X.prog X.w) a (Qa us))(hy:(a==sysModules)=false):OR X h Z M (.dict l) (.one a):=by
 refine mG (I0 hs q) λc1 c2 c3 c4=>?_;exact bS _ rfl hy (.inl (vm _ hd (c4 _ (oI c2)) (λt u hu=>(c3 t (oJ hu)).2) (c1.length.trans q.len.symm)))
theorem OR.dI{us:List (aa×aa)}{a:ag}(hs:Mb l=true)(hn:DK l=false)(q:VK X h Z M l us)(hd:h.DictOf (intKind X.prog X.w) a (Tj us))(hy:(a==sysModules)=false):OR X h Z M (.dict l) (.one a):=by
 refine mG (Qb hs q) λc1 c2 c3 c4=>?_;exact bS _ rfl hy (.inr ⟨_,hd,c4 _ (oI c2),λt u hu=>(c3 t (oJ hu)).2,c1.length.trans q.len.symm,λq=>by subst q;cases hn⟩)
theorem YE{os:O}(rd:Rd X N M s B)(g:Gs [s.heap.objs.size] M (nw s) az aw)(cj:R0 X μ₁.bk (s.heap.objs.size::N) az aw.heap)(BU:jg os μ₁=.ok x ao)
  (q:eK ((s.heap.objs.size::N)++foot az) az aw.heap (N++foot (az++[.one s.heap.objs.size])) (az++[.one s.heap.objs.size]) aw.heap->OR X aw.heap (N++foot (az++[.one s.heap.objs.size])) (az++[.one s.heap.objs.size]) os (.one s.heap.objs.size)):Pe X N M s x ao (.ref s.heap.objs.size) aw:=by
 refine c_ (fQ BU) λhx st ob=>?_;have g':=g.nw;refine(bS (az++[.one s.heap.objs.size]) ⟨g'.keep,λb m n=>?_,λi p e=>?_,g'.gens,g'.os⟩ (by refine ah st ?_;exact cj.adopt rd.V0 (λY Y Y e=>e) (q (p_ λY Y Y e=>e))) ?_)
 ·rw[gL] at m
  rcases bp.mp m with m|m
  ·exact g'.fresh b m n
  ·exact yh (by simpa [foot,Lc.foot] using m)
 ·have:=g'.pre i p e;refine ah (lD (cA.mp this).1) ?_;exact this
 ·refine ah hx ?_;exact⟨.one s.heap.objs.size,by refine ah cj.bk.len ?_;simp,(λh=>nomatch h),rfl⟩
theorem Et(i8:(X.base.get? sysModules).isSome=true)(kd:Kd X knd nd ke){K:Kc}(hK:KS X n K){ks:List (Option PySem.Expr)}{vs:List PySem.Expr}{c:C}{pos:Pos}(hl:Dl X n nm ks vs c)(h0:ks≠ [])(hb:(bB ks.length 15||(bB 35 ks.length&&bB ks.length 49))=true)(e:c K E B=.ok l μ₁)(o:Ok μ₁)(nl:nd l=true)
  (TB:∀{h Z M us},VK X h Z M l us->((ke us).map (·.1)).Nodup) (hor:∀{h Z M us a},VK X h Z M l us->h.DictOf knd a (ke us)->(a==sysModules)=false->OR X h Z M (.dict l) (.one a)) (BU:jg (.dict l) μ₁=.ok x ao):
  Ok B/\∀env A N M s,env.scope.names=nm->Rm n A->Fe N env->Rd X N M s B->Rn X env E N M s.heap->wpAny (model X.prog X.w) A (eval (.Dict ks vs pos) env) (Pe X N M s x ao) E0 s:=by
 refine c_ hl.ed λsh ln Y=>?_;rw[Bool.or_eq_true,cK,ez,ez,ez] at hb
 rcases hb with h15|⟨h35,h49⟩
 ·refine aD (YD kd hK hl h15 e o nl) λo0 g=>?_;refine⟨o0,λenv A N M s hn rm f rd rn=>?_⟩;rw[arm_eval_Dict,sh env pos,dictDisplay_pairs _ (λq=>h0 (zv.mp (by rw[←ln env pos,q];rfl))) (by rw[ln];exact dR (by assumption) (by decide))];refine ax (e7 (ax (aA (g env A N M s pos hn rm f rd rn) (λd aw p=>aX ?_) λY Y e=>e)));refine aD p λIa kO=>?_;clear p;subst Ia;refine FR kO λaz us g1 cj fu q1 d1 hu=>?_;clear kO;refine YE rd g1 cj BU λP=>?_;have q:=VP.vk (l₂:=.nil) (us':=[]) rfl (q1.mono P);rw[cM] at q;replace d1:=(uE _ (TB q))▸d1;exact hor q d1 (tD rd i8 (bG s.heap))
 ·refine aD (YC kd hK hl (m:=17) (fZ _) (bT _) (bb (bW _ _) (by assumption)) e o nl) λo0 AJ=>?_;refine kX AJ λacY l₂ aE e2 Ru n2 g1=>?_;clear AJ;have ld:(ks.drop 17).length=ks.length - 17:=lF;refine aD (YC kd hK Ru (m:=17) (fZ _) (bT _) (by omega) e2 o n2) λo2 AK=>?_;refine kX AK λacL M8 dp e3 hl3 n3 g2=>?_;clear AK;have ld2:((ks.drop 17).drop 17).length=ks.length - 34:=by refine ah lF (ah ld ?_);rfl
  refine aD (YD kd hK hl3 (by omega) e3 o n3) λo3 g3=>?_;refine⟨o0,λenv A N M s hn rm f rd rn=>?_⟩;refine eQ λkk=>?_;refine aD (rx (env:=env) (pos:=pos) 17 hl (bb (bW _ _) (by assumption))) λt1 t2=>?_;refine aD (rx (env:=env) (pos:=pos) 17 Ru (by omega)) λt3 t4=>?_;refine kk ?_;have ln3:=hl3.ed.2.1 env pos;rw[arm_eval_Dict,sh env pos,←t_ 17 (Ga env pos ks vs),t2,←t_ 17 (Ga env pos (ks.drop 17) (vs.drop 17)),t4,YB t1 t3 (by rw[ln3,ld2];omega) (λq=>by rw[q,ld2] at ln3;have:(0:Nat)=ks.length - 34:=ln3;omega)];refine ax (e7 (ax (ax (aA (g1 env A N M s pos hn rm f rd rn) (λd aw p=>aX ?_) λY Y e=>e))));refine aD p λI6 AP=>?_;clear p;subst I6;refine FR AP λaz Eu k1 cj fu q1 d1 hu1=>?_;clear AP;have f':Fe (s.heap.objs.size::N) env:=f.more λa m=>aP _ m;have l1:=(kd.app (us':=[]) nl q1).2
  have ne1:merged [] (ke Eu)≠ [] :=λq=>by
   refine W5 (ke Eu) (λhk=>?_) (λp r hk=>?_)
   ·replace l1:=hk▸l1;replace l1:=hu1▸l1;exact gr l1
   ·replace q:=hk▸q;exact xv r (acc:=stored [] p.1 p.2) (by unfold stored;exact nofun) q
  have z1:=qM [] (ke Eu);replace z1:=hu1▸(l1▸z1);refine ax (aA (Er (l₂:=M8) (μ₁:=dp) i8 kd f rd.V0 cj d1 ne1 (m:=17) (by refine ah qN ?_;simp at z1;lia) n2 (g2 env A _ az aw pos hn rm f' cj fu)) (λr s₂ p=>?_) λY Y e=>e);refine aD p λI7 Qf=>?_;clear p;subst I7;refine WT Qf λaN YF acJ k2 eh gP q2 d2 ne2 z2 m2=>?_;clear Qf;refine ax (aA (Er (l₂:=.nil) (μ₁:=μ₁) i8 kd f rd.V0 eh d2 ne2 (m:=((ks.drop 17).drop 17).length) (by refine ah qN ?_;simp at z1;omega) n3 (g3 env A _ aN s₂ pos hn rm f' eh gP)) (λr cR p=>?_) λY Y e=>e);refine aD p λYG AQ=>?_;clear p;subst YG;refine WT AQ λcI YH YI k3 kA vR q3 d3 ne3 z3 m3=>?_;clear AQ;refine aX ?_;have lv:∃o,(nw s).heap.get? s.heap.objs.size=some o:=⟨_,bX _ rfl⟩;have kk:=Gs.VZ lv cj k1 (Gs.VZ (DictOf.live d1) eh k2 k3);refine YE rd kk kA BU λP=>?_;have P2:=Gs.hS (N:=s.heap.objs.size::N) oK k2;have P3:=Gs.hS (N:=s.heap.objs.size::N) oK k3;have YJ:=((q1.mono P2).mono P3).mono P;have q2':=(q2.mono P3).mono P;have q3':=VP.vk (l₂:=.nil) (us':=[]) rfl (q3.mono P);rw[cM] at q3';have q:=VP.vk (VP.vk q3' q2') YJ;have hn1:=TB q;rw[(kd.app nl YJ).1,(kd.app n2 q2').1,gq,gq,iN,iN] at hn1;have e1:YI=ke (Eu++(YF++YH)):=by rw[m3 hn1.2.1.2.1,m2 hn1.2.1.1,vU,vU,←(kd.app n2 q2').1,←(kd.app nl YJ).1,uE _ (TB q)]
  exact hor q (e1▸d3) (tD rd i8 (bG s.heap))
theorem TC(i8:(X.base.get? sysModules).isSome=true){ks:List (Option PySem.Expr)}{vs:List PySem.Expr}{c:C}{pos:Pos}(hl:Dl X n nm ks vs c)(h0:ks≠ [])(hb:(bB ks.length 15||(bB 35 ks.length&&bB ks.length 49))=true):Es X n nm (.Dict ks vs pos) (FO c):=λK hK E B x ao e o=>by
 refine eQ λkk=>?_;refine a6 (a7 e) λlv μ₁ h1 h2=>?_;refine aD (En h2) λBU kind=>?_;refine kk ?_;have o1:Ok μ₁:=by show AllP μ₁.nj;refine eV ((fQ BU).2.2) ?_;exact o
 rcases kind with hs|⟨hi,hs⟩
 ·exact Et i8 kdS hK hl h0 hb h1 o1 hs (λq=>(I0 hs q).2.1) (OR.dS hs) BU
 ·exact Et i8 kdI hK hl h0 hb h1 o1 hi (λq=>(Qb hi q).2.1) (OR.dI hi hs) BU
end
set_option backward.match.sparseCases false
noncomputable def qa:RS->Prop|.no=>False|.dw _ B=>Ok B|.brk _ B=>Ok B|.cont _ B=>Ok B|.ret _ B=>Ok B
noncomputable def Pn(X:Cx)(F:List ag)(env:PySem.Env)(N:List ag)(M:List Lc)(s:aj)(E:Env)(B:Mm)(s':aj):Prop:=∃aK,Gs F M s aK s'/\R0 X B.bk N aK s'.heap/\Rn X env E N aK s'.heap
noncomputable def PS(X:Cx)(F:List ag)(env:PySem.Env)(N:List ag)(M:List Lc)(s:aj):RS->Flow->aj->Prop
 |.dw E B,.next,s'=>Pn X F env N M s E B s'
 |.brk E B,.brk,s'=>Pn X F env N M s E B s'
 |.cont E B,.cont,s'=>Pn X F env N M s E B s'
 |.ret v B,.ret u,s'=>∃aK,Gs F M s aK s'/\R0 X B.bk N aK s'.heap/\VR X s'.heap (N++foot aK) aK v u
 |_,_,_=>False
noncomputable def Ss(X:Cx)(n:Nat)(nm:Nm)(st:PySem.Stmt)(c:CS):Prop:=∀K,KS X n K->∀E B,qa (c K E B)->Ok B/\
 ∀env A N M s,env.scope.names=nm->Rm n A->Fe N env->Rd X N M s B->Rn X env E N M s.heap->wpAny (model X.prog X.w) A (exec st env) (PS X (own env) env N M s (c K E B)) E0 s
noncomputable def Sq(X:Cx)(n:Nat)(nm:Nm)(st:List PySem.Stmt)(c:CS):Prop:=∀K,KS X n K->∀E B,qa (c K E B)->Ok B/\
 ∀env A N M s,env.scope.names=nm->Rm n A->Fe N env->Rd X N M s B->Rn X env E N M s.heap->wpAny (model X.prog X.w) A (execs st env) (PS X (own env) env N M s (c K E B)) E0 s
section
variable{X:Cx}{n:Nat}{nm:Nm}{A:aM}{F N:List ag}{M aK az:List Lc}{s s' ru aw:aj}{v w x:V}{u u':aa}{B ao μ₁:Mm}{env:PySem.Env}{E eR:Env}{G:Gt}{h h':ay}{fl:Flow}{r:RS}
theorem Gs.tr(hF:∀b∈F,b∈N){I bK:List O}(r1:R0 X I N M s.heap)(r2:R0 X bK N az aw.heap)(a:Gs F M s az aw)(b:Gs F az aw aK s'):Gs F M s aK s':=
 Gs.trans (λb hb m=>r2.apart b m (hF b hb)) (λb hb=>r2.live b (hF b hb)) (λb hb=>r1.live b (hF b hb)) a b
theorem PS.trans(hF:∀b∈F,b∈N){I bK:List O}(r1:R0 X I N M s.heap)(r2:R0 X bK N az aw.heap)(g:Gs F M s az aw)(p:PS X F env N az aw r fl s'):PS X F env N M s r fl s':=by
 induction r<;>induction fl<;>first|exact p.elim|(refine aL p λaK g' z=>?_;clear p;exact(aQ aK (g.tr hF r1 r2 g') z))
theorem ee{r:RE}{k:V->Mm->RS}(e:qa (iY r k)):∃v B,r=.ok v B/\qa (k v B)/\iY r k=k v B:=by
 induction r with
 |no=>exact e.elim
 |ok v B=>exact dy v B rfl e rfl
theorem Rn.same(r:Rn X env E N M h)(e:∀x,a8 eR x=a8 E x):Rn X env eR N M h:=by
 obtain⟨⟨m,h1,h2⟩,h3,h4⟩:=r;exact⟨(aQ m h1 (λx v a b=>h2 x v a (by rw[←e];exact b))),h3,λx v a b=>h4 x v a (by rw[←e];exact b)⟩
theorem ry(f:Fe N env){I:List O}(rd:R0 X I N M s.heap)(hg:s'.gens=s.gens)(ho:s'.os=s.os)(k:∀b o,b∉own env->s.heap.get? b=some o->s'.heap.get? b=some o):Gs (own env) M s M s':=⟨λb o Y m e=>k b o m e,λY m n=>absurd m n,λY Y e=>e,hg,ho⟩
noncomputable def k_:PySem.Expr->Bool|.ListComp .. =>true|.SetComp .. =>true|.DictComp .. =>true|_=>false
theorem oL{value:PySem.Expr}{t:Option PySem.Expr}{l:Nat}(h:k_ value=false):swapsWith value t l env=pure false:=by
 cases value<;>first|rfl|exact absurd h nF
theorem I8:Sq X n nm [] fm:=λK hK E B o=>⟨o,λenv A N M s hn rm f rd rn=>qO (bS M Gs.refl rd rn)⟩
theorem Ew{st:PySem.Stmt}{rest:List PySem.Stmt}{a b:CS}(ha:Ss X n nm st a)(hb:Sq X n nm rest b):Sq X n nm (st::rest) (bI a b):=λK hK E B o=>by
 have o:qa (B9 (a K E B) (b K)):=o;show _/\∀env A N M s,_->_->_->_->_->wpAny _ A _ (PS X (own env) env N M s (B9 (a K E B) (b K))) E0 s;refine mRS (a K E B) (λAR=>?_) (λε₁ μ₁ AR=>?_) (λε₁ μ₁ AR=>?_) (λε₁ μ₁ AR=>?_) (λε₁ μ₁ AR=>?_)
 ·replace o:=AR▸o;exact o.elim
 ·replace o:=AR▸o;refine aD (hb K hK ε₁ μ₁ o) λo1 g2=>?_;refine aD (ha K hK E B (by refine ah AR ?_;exact o1)) λo0 g1=>?_;replace g1:=AR▸g1;refine⟨o0,λenv A N M s hn rm f rd rn=>qP (aA (g1 env A N M s hn rm f rd rn) (λfl aw p=>?_) λY Y e=>e)⟩
  induction fl<;>first|exact p.elim|skip
  refine bQ p λaz k1 cj fu=>?_;clear p;exact aA (g2 env A N az aw hn rm f cj fu) (λY Y p=>p.trans (λb hb=>fA f hb) rd cj k1) λY Y e=>e
 ·replace o:=AR▸o;refine aD (ha K hK E B (by refine ah AR ?_;exact o)) λo0 g1=>?_;replace g1:=AR▸g1;exact⟨o0,λenv A N M s hn rm f rd rn=>qP (aA (g1 env A N M s hn rm f rd rn) (λfl aw p=>by induction fl<;>first|exact p.elim|exact p) λY Y e=>e)⟩
 ·replace o:=AR▸o;refine aD (ha K hK E B (by refine ah AR ?_;exact o)) λo0 g1=>?_;replace g1:=AR▸g1;exact⟨o0,λenv A N M s hn rm f rd rn=>qP (aA (g1 env A N M s hn rm f rd rn) (λfl aw p=>by induction fl<;>first|exact p.elim|exact p) λY Y e=>e)⟩
 ·replace o:=AR▸o;refine aD (ha K hK E B (by refine ah AR ?_;exact o)) λo0 g1=>?_;replace g1:=AR▸g1;exact⟨o0,λenv A N M s hn rm f rd rn=>qP (aA (g1 env A N M s hn rm f rd rn) (λfl aw p=>by induction fl<;>first|exact p.elim|exact p) λY Y e=>e)⟩
theorem yi{st:PySem.Stmt}:Ss X n nm st pX:=λK hK E B o=>o.elim
theorem TF{y:Str}{p pos:Pos}{e:PySem.Expr}{a:C}(ha:Es X n nm e a)(hc:k_ e=false)(hy:bz y=true)(hk:nm.lookup y=some .local∨nm.lookup y=some .cell):Ss X n nm (.Assign [.Name y p] e pos) (m_ (idOf y) a):=λK hK E B o=>by
 refine eQ λkk=>?_;refine bJ (ee o) λv μ₁ h1 o1 h2=>?_;refine aD (ha K hK E B v μ₁ h1 o1) λo0 g1=>?_;refine kk ?_;refine⟨o0,λenv A N M s hn rm f rd rn=>wpAny_Assign_Name (Pe.go (H:=aa) (t:=eval e env) f rd rn (g1 env A N M s hn rm f rd rn) λu az aw k1 cj fu q1=>?_) (oL hc)⟩;refine rr f cj fu q1 hy (by replace hk:=iL hn▸hk;exact hk) λs₂ hg ho k2 eh gP Y=>?_;refine ah (show m_ (idOf y) a K E B=_ from h2) ?_;exact bS az (k1.gs.tr (λb hb=>fA f hb) rd cj (ry f cj hg ho k2)) eh gP
theorem TG{pos:Pos}{e:PySem.Expr}{a:C}(ha:Es X n nm e a):Ss X n nm (.Return (some e) pos) (vd a):=λK hK E B o=>by
 refine eQ λkk=>?_;refine bJ (ee o) λv μ₁ h1 o1 h2=>?_;refine aD (ha K hK E B v μ₁ h1 o1) λo0 g1=>?_;refine kk ?_;refine⟨o0,λenv A N M s hn rm f rd rn=>wpAny_Return_some (aA (g1 env A N M s hn rm f rd rn) (λu aw pD=>?_) λY Y e=>e)⟩;refine bQ pD λaz k1 cj q1=>?_;clear pD;refine ah (show vd a K E B=_ from h2) ?_;exact bS az k1.gs cj q1
theorem M9{pos:Pos}:Ss X n nm (.Return none pos) (vd (cC .none)):=λK hK E B o=>⟨o,λenv A N M s hn rm f rd rn=>wpAny_Return_none (bS M Gs.refl rd rfl)⟩
theorem M'{E:Env}(o:qa (WO v E B)):v=.none/\Ok B:=by
 induction v using V.casesOn<;>first|exact⟨rfl,o⟩|exact o.elim
theorem TH{pos:Pos}{e:PySem.Expr}{a:C}(ha:Es X n nm e a)(hc:k_ e=false):Ss X n nm (.Expr e pos) (r6 a):=λK hK E B o=>by
 refine eQ λkk=>?_;refine bJ (ee o) λv μ₁ h1 o1 h2=>?_;refine aD (M' o1) λCH o1=>?_;subst CH;refine aD (ha K hK E B .none μ₁ h1 o1) λo0 g1=>?_;refine kk ?_;refine⟨o0,λenv A N M s hn rm f rd rn=>wpAny_Expr_any (Pe.go (H:=aa) (t:=eval e env) f rd rn (g1 env A N M s hn rm f rd rn) λu az aw k1 cj fu q1=>?_) (by unfold interactive;refine ah f.fn ?_;rfl) (oL hc)⟩;refine ah (show r6 a K E B=_ from h2) ?_;exact bS az k1.gs cj fu
theorem yj{r:RB}{a b:Mm->RS}(e:qa (Aa r a b)):∃t B,r=.ok t B/\qa (bif t then a B else b B)/\Aa r a b=bif t then a B else b B:=by
 induction r with
 |no=>exact e.elim
 |ok t B=>induction t<;>exact dy _ B rfl e rfl
theorem YK{pos:Pos}{t:PySem.Expr}{b1 b2:List PySem.Stmt}{c:C}{d1 d2:CS}(hc:Ts X n nm t c)(h1:Sq X n nm b1 d1)(h2:Sq X n nm b2 d2):Ss X n nm (.If t b1 b2 pos) (B8 c d1 d2):=λK hK E B o=>by
 refine eQ λkk=>?_;refine bJ (yj o) λy μ₁ h3 o1 h4=>?_
 have key:Ok μ₁/\∀env A N M s,env.scope.names=nm->Rm n A->Fe N env->Rd X N M s μ₁->Rn X env E N M s.heap->wpAny (model X.prog X.w) A (bif y then execs b1 env else execs b2 env) (PS X (own env) env N M s (bif y then d1 K E μ₁ else d2 K E μ₁)) E0 s:=by
  cases y
  ·exact h2 K hK E μ₁ o1
  ·exact h1 K hK E μ₁ o1
 refine aD (hc K hK E B y μ₁ h3 key.1) λo0 g=>?_;refine kk ?_;refine⟨o0,λenv A N M s hn rm f rd rn=>wpAny_If (aA (g env A N M s hn rm f rd rn) (λu s' vP=>?_) λY Y e=>e)⟩;refine aD vP λhu kO=>?_;clear vP;refine aL kO λaK k mx=>?_;clear kO
 have:=aA (key.2 env A N aK s' hn rm f mx (rn.gw f rd k)) (λY Y p=>p.trans (λb hb=>fA f hb) rd mx k.gs) λY Y e=>e;refine ah (show B8 c d1 d2 K E B=_ from h4) (ah hu ?_)
 induction y<;>exact this
theorem M_{pos:Pos}:Ss X n nm (.Pass pos) (λY e B=>RS.dw e B):=λK hK E B o=>⟨o,λenv A N M s hn rm f rd rn=>wpAny_Pass (bS M Gs.refl rd rn)⟩
theorem Na{pos:Pos}:Ss X n nm (.Continue pos) DO:=λK hK E B o=>⟨o,λenv A N M s hn rm f rd rn=>ax (e7 (aX (bS M Gs.refl rd rn)))⟩
theorem TJ{pos:Pos}:Ss X n nm (.Break pos) Ra:=λK hK E B o=>⟨o,λenv A N M s hn rm f rd rn=>ax (e7 (aX (bS M Gs.refl rd rn)))⟩
end
set_option backward.match.sparseCases true
section
variable{X:Cx}{n:Nat}{nm:Nm}{A:aM}{F N:List ag}{M aK az:List Lc}{s s' ru aw:aj}{v w x:V}{u u':aa}{B ao μ₁:Mm}{env:PySem.Env}{E eR:Env}{G:Gt}{h h':ay}{Z:List ag}
theorem VF.len:∀{l:V}{es:List cG},VF X h Z M l es->Ab l=es.length:=by
 intro l
 induction l with
 |nil=>intro es q;subst q;rfl
 |fld m z r _ ih=>intro es q;refine vg q λx t e xs oD Y Y Y Y q2=>?_;clear q;subst oD;exact congrArg aZ (ih q2)
 |_=>intro es q;exact eY q
theorem VF.put{y:Str}(hy:bz y=true){hsh:Int}{tk:Tok}(q:VR X h Z M v u):∀{l:V}{es:List cG},VF X h Z M l es->VF X h Z M (hP l (idOf y) v) (putL y hsh (.str y tk) u es):=by
 intro l
 induction l with
 |nil=>intro es q0;subst q0;exact w4 y tk _ [] rfl rfl hy rfl q rfl
 |fld m z r _ ih=>
  intro es q0;refine vg q0 λx t e xs YL hk hx hm q1 q2=>?_;clear q0;subst YL;have hs:e.key.isStr y=(x==y):=by refine ah hk ?_;rfl
  show VF X h Z M (@Bool.rec (λY=>V) (.fld m z (hP r (idOf y) v)) (.fld m v r) (aC m (idOf y))) (if e.key.isStr y then _ else _);refine ah hs ?_;refine cW (aC m (idOf y)) (λhb=>?_) (λhb=>?_);rotate_left
  ·have:x=y:=idOf_inj hx hy (hm.trans (ta hb));subst this;refine ah (if_pos (by simp)) ?_;exact w4 x t _ xs rfl hk hx hm q q2
  ·have qk:(x==y)=false:=by
    rw[beq_eq_false_iff_ne];intro c;subst c;exact Cj hb hm.symm
   refine ah qk (ah (if_neg (by simp)) ?_);exact w4 x t e _ rfl hk hx hm q1 (ih q2)
 |_=>intro es q0;exact eY q0
theorem AS{y:Str}{hsh:Int}{k u:aa}:∀es:List cG,(putL y hsh k u es).length≤es.length+1
 | [] =>bT _
 |e::r=>by
  show(if e.key.isStr y then _ else _:List cG).length≤_
  split
  ·simp
  ·have:=AS (y:=y) (hsh:=hsh) (k:=k) (u:=u) r;simp only[ey];exact Nat.lt_succ_of_le (by assumption)
theorem Nb{C z d:ag}{es:List cG}{m:Nat}{y:Str}{tk:Tok}{R:Result->aj->Prop}(F2:X.K.In s.heap)(a:IT X.K C y)(h1:s.heap.get? z=some (instObj C d))(h2:s.heap.get? d=some (PySem.W.dictOf es m))
  (hr:(es.any λe=>e.key.isStr y)=true∨(es.any λe=>e.refKey)=false) (hz:es.length≤900)
  (hq:∀h' m' hsh tk',h'.get? d=some (PySem.W.dictOf (putL y hsh (.str y tk') u es) m')->jD d s.heap h'->R (.ok (.ret .none)) {s with heap:=h',toks:=s.toks+1}):
  codeAny (model X.prog X.w) A (.call (.builtin "object.__setattr__") ⟨[.ref z,.str y tk,u],[]⟩) R s:=by
 refine osa_open F2 (tB h1 h2) a.over a.take λb=>?_;refine aL (any_some a.has) λcd hc yg=>?_;refine ax (aX (ax (ax (wpAny_loadPart h1 (ax ((looks_clsIn F2 hc).here ?_))))));refine ah yg ?_;refine aX (a:=some d) (ax (aX (ax ?_)));unfold nsSet;refine ax (ax (wpAny_askSetting (aX (ax (wpAny_mkText (ax (wpAny_loadPart h2 ?_)))))));dsimp only[PySem.W.dictOf]
 have c:(!(es.toArray.any (·.key.isStr y))&&es.toArray.any (·.refKey))=false:=by
  refine ah List.any_toArray (ah List.any_toArray ?_)
  rcases hr with hr|hr<;>rw[hr] <;>simp
 rw[aRefKeyMayBeTheName_at,c];refine wpAny_updatePart h2 ?_;have e:=uN (Obj.putName y (oi X.w.params y) (.str y s.toks) u) h2 (by rw[putName_dict];rfl);rw[putName_dict] at e;have hl:=AS (y:=y) (hsh:=oi X.w.params y) (k:=.str y s.toks) (u:=u) es;refine ax (wpAny_lookBehind e (pastItsLine_dict (by refine ah List.size_toArray (ah qN ?_);lia)) ?_);exact aX (hq _ _ _ _ e (uP ..))
theorem yk{r:RM}(o:qa (pW E r)):∃B,r=.ok B/\pW E r=.dw E B/\Ok B:=by
 induction r with
 |no=>exact o.elim
 |ok B=>exact bS B rfl rfl o
theorem I9(ok:mO X)(g:k9 X G){y:Str}(hy:bz y=true)(ha:G.zh (idOf y)=true){o:V}(e:FP o (idOf y) v B=.ok ao):ao.nj=B.nj/\∀A N M s u u'(Q:Unit->aj->Prop),Rd X N M s B->Vr X N M s o u->Vr X N M s v u'->
  (∀s',Gw M s M s'->Rd X N M s' ao->(∀b,b∈N->∀o,s.heap.get? b=some o->s'.heap.get? b=some o)->Q () s')->wpAny (model X.prog X.w) A (setAttr u y u') Q E0 s:=by
 induction o using V.casesOn with
 |loc i=>
  have e:HJ i (uY (bk B i)) (idOf y) v B=.ok ao:=e;refine cOO (bk B i) (λho=>?_) (λob ho=>?_)
  ·replace e:=ho▸e;exact PJ e
  ·replace e:=ho▸e
   induction ob with
   |inst c l=>
    have e:(@Bool.rec (λY=>RM) RM.no (upd i (.inst c (hP l (idOf y) v)) B) (bB (Ab l) 900))=.ok ao:=e;refine cBool (bB (Ab l) 900) (λhb=>?_) (λhb=>?_)
    ·replace e:=hb▸e;exact PJ e
    ·replace e:=hb▸e;refine aD (p8 e) λe1 e2=>?_;refine⟨e2,λA N M s u u' Q rd q q' hq=>?_⟩;refine aL (kK rd ho) λp hp i6=>?_;refine ve i6 λz d es m hpp h1 h2 h3=>?_;clear i6;refine bQ q λp' kf Y YM=>?_;clear q;subst YM;replace kf:=hp▸kf;refine Af kf ?_;subst hpp;have a:=g.zh c y hy ha
     have hr:(es.any λe=>e.key.isStr y)=true∨(es.any λe=>e.refKey)=false:=by
      refine Ml (gc l (idOf y)) (λhl=>?_) (λx hl=>?_)
      ·exact .inr ((h3.look hy).2 hl).2
      ·refine aL ((h3.look hy).1 x hl) λen hf Y=>?_;exact .inl (lJ.mpr (aQ en (zt hf) (List.find?_some (p:=λe:cG=>e.key.isStr y) hf)))
     have hz:es.length≤900:=by refine eV h3.len ?_;exact ez.mp hb
     refine set_plain (ok.F2.keeps rd.base) (tB h1 h2) a.set (Nb (s:={s with toks:=s.toks+1}) (ok.F2.keeps rd.base) a h1 h2 hr hz λh' m' hsh tk' hg sb=>?_)
     have kb:Ri (.two z d) s.heap h':=λb o n e=>by
      refine ah (sb.2 b (λq=>n (by subst q;simp[Lc.foot]))) ?_;exact e
     have P:=ri (N:=N) hp kb;refine hq _ (xU hp kb) (rd.put hp e1 kb (w3 z d _ m' rfl ?_ hg (VF.put hy (VR.mono P v q') (VF.mono P l h3)))) λb hb o ho=>kb b o (λm=>rd.apart b (dO hp m) hb) ho
     have:z≠d:=λq=>by replace h1:=h2▸(q▸h1);cases h1
     refine ah (sb.2 z this) ?_;exact h1
   |_=>exact PJ e
 |_=>exact PJ e
theorem Nc(ok:mO X)(g:k9 X G){y:Str}{ob e:PySem.Expr}{a c:C}{p pos:Pos}(ho:Es X n nm ob c)(ha:Es X n nm e a)(hc:k_ e=false)(hy:bz y=true)(oM:G.zh (idOf y)=true):Ss X n nm (.Assign [.Attribute ob y p] e pos) (Ac c (idOf y) a):=λK hK E B o=>by
 refine eQ λkk=>?_;refine bJ (ee o) λv μ₁ h1 o1 h2=>?_;refine bJ (ee o1) λw aE h3 o2 h4=>?_;refine bQ (yk o2) λdp h5 h6 o3=>?_;refine aD (I9 ok g hy oM h5) λeo k=>?_;have o2:Ok aE:=by show AllP aE.nj;refine eV eo ?_;exact o3
 refine aD (ho K hK E μ₁ w aE h3 o2) λo1 g2=>?_;refine aD (ha K hK E B v μ₁ h1 o1) λo0 g1=>?_;refine kk ?_;refine⟨o0,λenv A N M s hn rm f rd rn=>plainObj_wpAny_Assign_Attribute (Pe.go (H:=aa) (t:=eval e env) f rd rn (g1 env A N M s hn rm f rd rn) λu az aw k1 cj fu q1=>Pe.go (H:=aa) (t:=eval ob env) f cj fu (g2 env A N az aw hn rm f cj fu) λu' aN s₂ k2 eh gP q2=>?_) (oL hc)⟩;refine k A N aN s₂ u' u _ eh q2 (q1.up k2) λcR k3 kA Y=>?_;refine ah (show Ac c (idOf y) a K E B=.dw E dp from h2.trans (h4.trans h6)) ?_;exact bS aN (((k1.trans k2).trans k3).gs) kA (gP.gw f eh k3)
end
section
variable{X:Cx}{n:Nat}{nm:Nm}{A:aM}{F N:List ag}{M aK az:List Lc}{s s' ru aw:aj}{v w x:V}{u u':aa}{B ao μ₁:Mm}{env:PySem.Env}{E eR:Env}{G:Gt}{h h':ay}{Z:List ag}
theorem I'{op:hV}(e:B7 op v w B=.ok x ao):ao=B/\∀A N M s u u',Rd X N M s B->Vr X N M s v u->Vr X N M s w u'->wpAny (model X.prog X.w) A (inplaceOp (BS op) u u') (Pe X N M s x ao) E0 s:=by
 have key:∀op,Me op v w B=.ok x ao->∃i j,cb v=.ok i/\cb w=.ok j/\x=VO op v w (binI op i j)/\ao=B:=λop e=>by
  unfold Me at e;refine mOI (cb v) (λhi=>?_) (λi hi=>?_)
  ·replace e:=hi▸e;exact j9 e
  ·replace e:=hi▸e;have e:Q_ op v w i B=.ok x ao:=e;unfold Q_ at e
   cases hj:cb w with
   |no=>replace e:=hj▸e;exact j9 e
   |ok j=>replace e:=hj▸e;refine DQ e ?_;exact mH i j rfl rfl rfl rfl
 induction op with
 |add=>
  refine iZ (key .add e) λi j hi hj oD YN=>?_;subst oD;subst YN;refine⟨rfl,λA N M s u u' rd q q'=>?_⟩;refine bc (b7 hi q) λt mf=>?_;subst mf;refine bc (b7 hj q') λt' kh=>?_;subst kh;exact iadd_int (Pe.same rd rfl (ox (Cd hi hj)) rfl)
 |sub=>
  refine iZ (key .sub e) λi j hi hj AA YO=>?_;subst AA;subst YO;refine⟨rfl,λA N M s u u' rd q q'=>?_⟩;refine bc (b7 hi q) λt vJ=>?_;subst vJ;refine bc (b7 hj q') λt' vK=>?_;subst vK;exact isub_int (Pe.same rd rfl (ox (Cd hi hj)) rfl)
 |_=>exact j9 e
theorem TK{y:Str}{op:hV}{p pos:Pos}{e:PySem.Expr}{a:C}(ha:Es X n nm e a)(hy:bz y=true)(Yx:(y==("__classdict__":Str))=false)(hk:nm.lookup y=some .local∨nm.lookup y=some .cell):Ss X n nm (.AugAssign (.Name y p) (BS op) e pos) (Ad (idOf y) op a):=λK hK E B o=>by
 refine eQ λkk=>?_;refine bJ (ee o) λov xu h0 o1 h1=>?_;refine aD (CD h0) λhl vS=>?_;subst vS;refine bJ (ee o1) λv μ₁ h2 o2 h3=>?_;refine bJ (ee o2) λz aE h4 o3 h5=>?_;refine aD (I' (X:=X) h4) λCy k=>?_;subst Cy;refine aD (ha K hK E xu v aE h2 o3) λo0 g1=>?_;refine kk ?_;refine⟨o0,λenv A N M s hn rm f rd rn=>wpAny_AugAssign_Name (II f rn hy hl (by replace hk:=iL hn▸hk;rcases hk with hk|hk;exact .inl hk;exact .inr (.inl hk)) Yx λu q=>Pe.go (H:=aa) (t:=eval e env) f rd rn (g1 env A N M s hn rm f rd rn) λu' az aw k1 cj fu q1=>Pe.go (H:=aa) (t:=inplaceOp (BS op) u u') f cj fu (k A N az aw u u' cj (Vr.up k1 q) q1) λu'' aN s₂ k2 eh gP q2=>?_)⟩;refine rr f eh gP q2 hy (by replace hk:=iL hn▸hk;exact hk) λcR hg ho k3 kA vR Y=>?_;refine ah (show Ad (idOf y) op a K E xu=.dw (eS E (idOf y) z) aE from h1.trans (h3.trans h5)) ?_;exact bS aN ((k1.trans k2).gs.tr (λb hb=>fA f hb) rd eh (ry f eh hg ho k3)) kA vR
theorem Nd(ok:mO X)(g:k9 X G){y:Str}{op:hV}{ob e:PySem.Expr}{c a:C}{p pos:Pos}(ho:Es X n nm ob c)(ha:Es X n nm e a)(hy:bz y=true)(oM:G.zh (idOf y)=true):Ss X n nm (.AugAssign (.Attribute ob y p) (BS op) e pos) (vc c (idOf y) op a):=λK hK E B o=>by
 refine bJ (ee o) λov xu h0 o1 h1=>?_;refine bJ (ee o1) λuv μ₁ h2 o2 h3=>?_;refine bJ (ee o2) λv aE h4 o3 h5=>?_;refine bJ (ee o3) λz dp h6 o4 h7=>?_;refine bQ (yk o4) λgM h8 h9 o5=>?_;refine aD (Ek ok g hy oM (expr:=true) h2) λCI k2=>?_;subst CI;refine aD (I' (X:=X) h6) λCJ k=>?_;subst CJ;refine aD (I9 ok g hy oM h8) λeo kk=>?_;have V1:Ok dp:=by show AllP dp.nj;refine eV eo ?_;exact o5
 refine aD (ha K hK E μ₁ v dp h4 V1) λV2 g2=>?_;refine aD (ho K hK E B ov μ₁ h0 V2) λo0 g1=>?_;refine⟨o0,λenv A N M s hn rm f rd rn=>wpAny_AugAssign_AttributeAny (Pe.go (H:=aa) (t:=eval ob env) f rd rn (g1 env A N M s hn rm f rd rn) λu az aw k1 cj fu q1=>Pe.go (H:=aa) (t:=getAttr u y true) f cj fu (k2 A N az aw u cj q1) λu2 aN s₂ k2' eh gP q2=>Pe.go (H:=aa) (t:=eval e env) f eh gP (g2 env A N aN s₂ hn rm f eh gP) λu3 cI cR k3 kA vR q3=>Pe.go (H:=aa) (t:=inplaceOp (BS op) u2 u3) f kA vR (k A N cI cR u2 u3 kA (q2.up k3) q3) λu4 Ep tc k4 Hg rn4 q4=>?_)⟩;refine kk A N Ep tc u u4 _ Hg (((q1.up k2').up k3).up k4) q4 λacM k5 rd5 Y=>?_;refine ah (show vc c (idOf y) op a K E B=.dw E gM from h1.trans (h3.trans (h5.trans (h7.trans h9)))) ?_;exact bS Ep (((((k1.trans k2').trans k3).trans k4).trans k5).gs) rd5 (rn4.gw f Hg k5)
theorem Ex{a r:V}{k:Nat}{l':V}{Q:Prop}(e:m8 (.cons a r) (k+1) v=.ok l')(h:∀r',m8 r k v=.ok r'->l'=.cons a r'->Q):Q:=jV nO (show uX a (m8 r k v)=_ from e) λr' h1 e=>h r' h1 (by refine DS e ?_;rfl)
theorem Ey{l:V}{us:List aa}{k:Nat}{l':V}(e:m8 l k v=.ok l')(q:VL X h Z M l us)(qv:VR X h Z M v u):k<us.length/\VL X h Z M l' (us.set k u):=by
 induction us generalizing l k l' with
 |nil=>rcases q.shape with⟨rfl,_⟩|⟨_,_,_,_,_,e',_⟩;exact Hd e;(injection e')
 |cons x xs ih=>
  rcases q.shape with⟨_,e'⟩|⟨a,t,x',Ak,rfl,e',q1,q2⟩
  ·injection e'
  ·injection e' with g1 g2;subst g1;subst g2
   induction k using dM with
   |zero=>cases e;exact⟨lN _,u,xs,rfl,qv,q2⟩
   |succ k=>exact Ex e λr' h1 h2=>⟨Nat.succ_lt_succ (ih h1 q2).1,h2▸(dy x _ rfl q1 ((ih h1 q2).2))⟩
theorem Ge{l:V}{us:List aa}{k:Nat}(q:VL X h Z M l us)(hk:k<us.length):∃l',m8 l k v=.ok l':=by
 induction us generalizing l k with
 |nil=>exact absurd hk (eA _)
 |cons x xs ih=>
  rcases q.shape with⟨_,e'⟩|⟨a,t,x',Ak,rfl,e',q1,q2⟩
  ·injection e'
  ·injection e' with g1 g2;subst g1;subst g2
   induction k using dM with
   |zero=>exact⟨_,rfl⟩
   |succ k=>exact(ih q2 (jy hk)).elim λl' hl=>⟨.cons a l',by show uX a (m8 t k v)=_;refine ah hl ?_;rfl⟩
def YQ(X:Cx)(o i v:V)(B ao:Mm):Prop:=∀A N M s u ui uv(Q:Unit->aj->Prop),Rl A->Rd X N M s B->Vr X N M s o u->Vr X N M s i ui->Vr X N M s v uv->(∀s',Gw M s M s'->Rd X N M s' ao->Q () s')->wpAny (model X.prog X.w) A (setItem u ui uv) Q E0 s
theorem set_list{i:Nat}{l l' iv:V}{j:Int}(ho:dF (bk B i)=.ok l)(hi:cb iv=.ok j)(h0:0≤j)(hj:j<2 ^ 63)(tw:∀(h:ay) Z M us,VL X h Z M l us->j.toNat<us.length)(hs:m8 l j.toNat v=.ok l')(hu:upd i (.du l') μ₁=.ok ao)(R2:μ₁.bk=B.bk):YQ X (.loc i) iv v B ao:=λA N M s u ui uv Q rl rd q qi qv hq=>by
 refine iZ (oy rd ho q) λa vs hp TM il vl=>?_;subst TM;refine bc (b7 hi qi) λt Cs=>?_;subst Cs;refine aD (p8 hu) λe1 e2=>?_;replace e1:=R2▸e1;have hW:=tw _ _ _ _ vl;replace hW:=d6▸hW;refine wpAny_setItem_list il h0 hj ((tW h0).mp hW) λh' il' sb=>?_;have P:=ri (N:=N) hp (fq sb);exact hq _ (xU hp (fq sb)) (rd.put hp e1 (fq sb) ⟨a,_,rfl,il',by refine ah Array.toList_setIfInBounds ?_;exact(Ey hs (VL.mono P l vl) (VR.mono P v qv)).2⟩)
theorem yl{f:Int->Option aa}{P:V->Prop}(h0:P .nil)(h1:∀k z r u,f k=some u->VR X h Z M z u->P r->P (.kv (.int k) z r)){l:V}(q:o8 X h Z M l f):P l:=by
 induction l with
 |kv a z r _ _ ih=>revert q;induction a using V.casesOn<;>first|exact eY|exactλq=>q.1.elim λu p=>h1 _ z r u p.1 p.2 (ih q.2)
 |nil=>exact h0
 |_=>exact eY q
theorem o8.more{f f':Int->Option aa}(k:∀x u,f x=some u->f' x=some u){l:V}(q:o8 X h Z M l f):o8 X h Z M l f':=yl (P:=λl=>o8 X h Z M l f') trivial (λY Y Y u e q1 ih=>⟨(aQ u (k _ _ e) q1),ih⟩) q
theorem o8.app{f:Int->Option aa}{k:Int}(hk:f k=some u)(qv:VR X h Z M v u){l:V}(q:o8 X h Z M l f):o8 X h Z M (a_ l (.kv (.int k) v .nil)) f:=
 yl (P:=λl=>o8 X h Z M (a_ l (.kv (.int k) v .nil)) f) ⟨(aQ u hk qv),trivial⟩ (λY Y Y u e q1 ih=>⟨(aQ u e q1),ih⟩) q
theorem I_{k:Int}{l:V}{f:Int->Option aa}(q:o8 X h Z M l f):(∀i,pC l i->pC (a_ l (.kv (.int k) v .nil)) i)/\pC (a_ l (.kv (.int k) v .nil)) k/\aO (a_ l (.kv (.int k) v .nil))=aO l+1/\a_ l (.kv (.int k) v .nil)≠ .nil:=
 yl (P:=λl=>(∀i,pC l i->pC (a_ l (.kv (.int k) v .nil)) i)/\pC (a_ l (.kv (.int k) v .nil)) k/\aO (a_ l (.kv (.int k) v .nil))=aO l+1/\a_ l (.kv (.int k) v .nil)≠ .nil) (ib (λi h=>eY h) (.inl rfl) rfl nofun) (λY Y Y Y Y Y ih=>(ib (λi hi=>hi.imp id (ih.1 i)) (.inr ih.2.1) (congrArg aZ ih.2.2.1) nofun)) q
theorem AU{gh:List (Int×aa)}{k:Int}(hn:valueAt gh k=none):(∀x u,valueAt gh x=some u->valueAt (gh++[(k,u')]) x=some u)/\valueAt (gh++[(k,u')]) k=some u'/\∀x u,valueAt (gh++[(k,u')]) x=some u->x=k∨valueAt gh x=some u:=by
 have e:∀x,valueAt (gh++[(k,u')]) x=(valueAt gh x).or (if k=x then some u' else none):=λx=>by
  unfold valueAt;refine ah (List.find?_append) ?_
  cases List.find? (λkv=>decide (kv.1=x)) gh with
  |some p=>rfl
  |none=>
   by_cases hx:k=x
   ·subst hx;simp
   ·simp[hx]
 refine⟨λx u hu=>by rw[e,hu];rfl,by rw[e,hn];simp,λx u hu=>?_⟩;rw[e] at hu;refine kZ (valueAt gh x) (λhv=>?_) (λz hv=>?_);rotate_left
 ·replace hu:=hv▸hu;exact .inr hu
 ·replace hu:=hv▸hu
  by_cases hx:k=x
  ·exact .inl hx.symm
  ·simp[hx] at hu
theorem Ja{k:Nat}{l i:V}(ho:dF (bk B k)=.ok l)(e:DM k l i v B=.ok ao)(h:Ok ao):Ok B/\YQ X (.loc k) i v B ao:=jI nM e λj hi e=>by
 have p:=fb (p:=BQ l j) (B:=B) (by show AllP _;refine eV ((p8 e).2) ?_;exact h);refine c_ (D4 p.1) λbq1 bq2 bq3=>?_;refine⟨p.2,λA N M s u ui uv Q rl rd q qi qv hq=>?_⟩;refine iZ (oy rd (l:=l) ho q) λa vs hp TN il vl=>?_;subst TN;have lt:∀(h:ay) Z M us,VL X h Z M l us->j.toNat<us.length:=λh Z M us vl=>by refine eV vl.len ?_;exact bq3
 refine bc (Ge (v:=v) vl (lt _ _ _ _ vl)) λl' hs=>?_;exact set_list (X:=X) (l:=l) ho hi bq2 (oB bq1).2 lt hs (by refine eV (show w2 l (dz j) v=l' by unfold w2;rw[hs]) ?_;exact e) (gv _ _) A N M s _ ui uv Q rl rd q qi qv hq
theorem Gf{l l':V}{k:Nat}(e:m8 l k v=.ok l'):∃l'',m8 l k .none=.ok l'':=by
 induction l generalizing k l' with
 |cons a r _ ih=>
  induction k using dM with
  |zero=>exact⟨_,rfl⟩
  |succ k=>exact Ex e λr' h1 Y=>(ih h1).elim λr'' h2=>⟨.cons a r'',by show uX a (m8 r k .none)=_;refine ah h2 ?_;rfl⟩
 |_=>exact Hd e
theorem Jb{l v':V}{gh:List (Int×aa)}{a:ag}{k:Nat}{j:Int}{t:Tok}{uv:aa}{Q:Unit->aj->Prop}(hd:s.heap.DictOf (intKind X.prog X.w) a gh)(Qg:(a==sysModules)=false)(a1:o8 X s.heap (N++foot M) M l (valueAt gh))(a2:∀i u,valueAt gh i=some u->pC l i)(a3:gh.length=aO l)(hn:valueAt gh j=none)(hl:aO l≤10000)
  (hp:M[k]? =some (.one a)) (rd:Rd X N M s B) (e1:lT B.bk k (.dict (a_ l (.kv (.int j) v' .nil)))=.ok ao.bk) (qv:Vr X N M s v' uv) (hq:∀s',Gw M s M s'->Rd X N M s' ao->Q () s'):wpAny (model X.prog X.w) A (setItem (.ref a) (.int j t) uv) Q E0 s:=by
 have v:=AU (u':=uv) hn;refine wpAny_setItem_pairs (vB j t) hd (λh' yg sb=>?_) (by refine ah a3 (ah dm ?_);exact bb hl (by decide));have P:=ri (N:=N) hp (fq sb)
 have R2:stored gh j uv=gh++[(j,uv)] :=if_neg λha=>by
  refine aL (lJ.mp ha) λkv VY he=>?_;exact(List.find?_eq_none.mp (Option.map_eq_none_iff.mp hn)) kv VY he
 replace yg:=R2▸yg;have b:=I_ (v:=v') (k:=j) a1;exact hq _ (xU hp (fq sb)) (rd.put hp e1 (fq sb) (bS a rfl Qg (.inr ⟨_,yg,o8.app v.2.1 (VR.mono P _ qv) (o8.more v.1 (o8.mono P _ a1)),λx z hz=>(v.2.2 x z hz).elim (λe=>e▸b.2.1) λhz=>b.1 x (a2 x z hz),by refine ah b.2.2.1 (ah dA (ah a3 ?_));rfl,b.2.2.2⟩)))
theorem TO{k:Nat}{l i:V}(ho:dF (bk B k)=.ok l)(e:PF k l i v B=.ok ao)(h:Ok ao):Ok B/\YQ X (.loc k) i v B ao:=by
 rcases HO i with⟨j,rfl⟩|hn
 ·refine jT nM e λhb e=>jV nM e λl' hs e=>?_;have b:=cx hb;rw[eL,decide_eq_true_iff] at b;refine⟨by show AllP B.nj;refine eV ((p8 e).2) ?_;exact h,λA N M s u ui uv Q rl rd q qi qv hq=>?_⟩;exact set_list (X:=X) (l:=l) ho rfl b.2 (oB b.1).2 (λh Z M us vl=>(Ey (u:=.none) (v:=.none) (X:=X) ((Gf hs).choose_spec) vl rfl).1) hs e rfl A N M s u ui uv Q rl rd q qi qv hq
 ·exact Ja ho ((hn RM (DM k l i v B) _).symm.trans e) h
theorem TP{k:Nat}{l i:V}(ho:bk B k=.ok (.dict l))(e:PG k l i v (inD i l B)=.ok ao)(h:Ok ao):Ok B/\YQ X (.loc k) i v B ao:=by
 cases hr:inD i l B with
 |no=>replace e:=hr▸e;exact PJ e
 |Hb _ _=>replace e:=hr▸e;exact PJ e
 |Ha aE=>
  replace e:=hr▸e;refine Mn nM e λj hi e=>jKv nM e λk0 z0 r0 hl e=>jT nM e λtw e=>?_;subst hi;refine aD (p8 e) λe1 e2=>?_;have p:=(H7 (X:=X) (y:=true) (x:=j) l B).2 aE (x4 nN hr) (by show AllP _;refine eV e2 ?_;exact h);replace e1:=p.2.1▸e1;refine⟨p.1,λA N M s u ui uv Q rl rd q qi qv hq=>?_⟩;refine aL (kK rd ho) λp' hp i6=>?_;refine bQ i6 λa i7 Qg dd=>?_;clear i6;subst i7;refine bQ q λp'' kf Y TQ=>?_;clear q;subst TQ
  cases hp.symm.trans kf
  refine bc qi λt TR=>?_;clear qi;subst TR
  rcases dd with⟨gh,hd,a1,a2,a3⟩|⟨gh,hd,a1,a2,a3,a4⟩
  ·rcases vA a1 with rfl|⟨_,_,_,rfl⟩
   ·exact V.noConfusion hl
   ·exact absurd hr nN
  ·exact Jb hd Qg a1 a2 a3 (none_of (a2 j) p.2.2) (fI tw) hp rd e1 qv hq
theorem TU{o i:V}(e:WN o i v B=.ok ao)(h:Ok ao):Ok B/\YQ X o i v B ao:=Mp nM e λk ho e=>jO nM e λob hs e=>by
 subst ho
 induction ob with
 |list l=>exact TO (by refine ah hs ?_;rfl) e h
 |du l=>exact Ja (by refine ah hs ?_;rfl) e h
 |dict l=>exact TP hs e h
 |_=>exact PJ e
theorem Nf{ob ix e:PySem.Expr}{a c d:C}{p pos:Pos}(ho:Es X n nm ob c)(hi:Es X n nm ix d)(ha:Es X n nm e a)(hc:k_ e=false):Ss X n nm (.Assign [.Subscript ob ix p] e pos) (sV c d a):=λK hK E B o=>by
 refine eQ λkk=>?_;refine bJ (ee o) λv μ₁ h1 o1 h2=>?_;refine bJ (ee o1) λw aE h3 o2 h4=>?_;refine bJ (ee o2) λz dp h5 o3 h6=>?_;refine bQ (yk o3) λgM h7 h8 o4=>?_;refine aD (TU (X:=X) h7 o4) λo3' k=>?_;refine aD (hi K hK E aE z dp h5 o3') λV1 g3=>?_;refine aD (ho K hK E μ₁ w aE h3 V1) λV2 g2=>?_;refine aD (ha K hK E B v μ₁ h1 V2) λo0 g1=>?_;refine kk ?_;refine⟨o0,λenv A N M s hn rm f rd rn=>wpAny_Assign_Subscript (Pe.go (H:=aa) (t:=eval e env) f rd rn (g1 env A N M s hn rm f rd rn) λu az aw k1 cj fu q1=>Pe.go (H:=aa) (t:=eval ob env) f cj fu (g2 env A N az aw hn rm f cj fu) λu' aN s₂ k2 eh gP q2=>Pe.go (H:=aa) (t:=eval ix env) f eh gP (g3 env A N aN s₂ hn rm f eh gP) λu'' cI cR k3 kA vR q3=>?_) (oL hc)⟩;refine k A N cI cR u' u'' u _ rm.rl kA (q2.up k3) q3 ((q1.up k2).up k3) λtc k4 Hg=>?_;refine ah (show sV c d a K E B=.dw E gM from h2.trans (h4.trans (h6.trans h8))) ?_;exact bS cI ((((k1.trans k2).trans k3).trans k4).gs) Hg (vR.gw f kA k4)
end
set_option backward.match.sparseCases false
section
variable{X:Cx}{n:Nat}{nm:Nm}{A:aM}{F N:List ag}{M aK az:List Lc}{s s' ru aw:aj}{v w x:V}{u u':aa}{B ao μ₁:Mm}{env:PySem.Env}{E eR:Env}{G:Gt}{h h':ay}{Z Z':List ag}{prog:Program}{wd:aY}{acW:aa->aj->Prop}
theorem Gg{it t:ag}{items:Array aa}(qk:t≠it):∀(n i:Nat)(s:aj)(Q:List aa->aj->Prop),s.heap.IsListIter it t i->s.heap.IsList t items->i+n≤items.size->
  (∀h',h'.IsListIter it t (i+n)->jD it s.heap h'->Q ((items.toList.drop i).take n) {s with heap:=h'})->wpAny (model prog wd) A (draw (.ref it) n) Q acW s:=by
 intro zr
 induction zr with
 |zero=>
  exact @λi s Q hit _ _ hQ=>by
   show wpAny _ _ (pure []) Q acW s;exact aX (by simpa using hQ s.heap hit (zV ..))
 |succ n bN=>
  exact @λi s Q hit ht hle hQ=>by
   have hW:i<items.size:=by exact dR (iR _ _) (by assumption)
   show wpAny _ _ (pyNext (.ref it) >>= _) Q acW s;refine ax (wpAny_pyNext_list_item hit ht (x:=items[i]) (by simp[hW]) λjj CK AV=>?_);refine ax (eD (bN (i+1) _ _ CK (ht.extBut AV.extBut qk) (by lia) λfJ TV YR=>aX ?_));have hd:items.toList.drop i=items[i] ::items.toList.drop (i+1):=by simp[lH,hW]
   have:=hQ fJ (by refine ah (show i+(n+1)=i+1+n by exact(uq _ _).symm) ?_;exact TV) (AV.trans YR);rw[hd,List.take_succ_cons] at this;exact this
theorem r_{t:ag}{items:Array aa}{Q:List aa->aj->Prop}(hh:A.handled=none)(ht:s.heap.IsList t items)
  (hQ:∀h',oa s.heap.objs.size s.heap h'->Q items.toList {s with heap:=h'}):wpAny (model prog wd) A (unpackItems (.ref t) items.size none) Q acW s:=by
 have hW:t≠s.heap.objs.size:=by refine aL ht λo ho Y=>?_;exact qG (iE ho)
 dsimp only[unpackItems];refine ax ?_
 ·unfold notIterableAtAll;refine ax (uB ht.typeIs slot_list_iter.lookup ?_);refine aX ?_;rw[if_neg nT];refine ax (eD (uF ht ?_));refine ax (eD (Gg hW items.size 0 _ _ (bS _ (bX _ rfl) rfl rfl) (ht.push _) (by lia) λjj CK AV=>?_))
  have td:List.take items.size (List.drop 0 items.toList)=items.toList:=by
   refine ah t7 ?_;exact nZ (by simp)
  refine ah td ?_;refine ah (if_neg (by simp)) ?_;have YS:jj.IsList t items:=(ht.push _).extBut AV.extBut hW;refine ax (eD (wpAny_pyNext_list_end hh CK YS (by simp) λfJ YT=>?_));dsimp only;refine aX (hQ fJ λb o hb e=>YT b o hb (AV.extBut b o hb (n_ _ e)))
theorem ym{l:V}(rd:Rd X N M s B)(e:items v B=.ok l)(q:Vr X N M s v u)(hh:A.handled=none){k:Nat}(hk:aO l=k){Q:List aa->aj->Prop}(hq:∀us h',All s.heap h'->VL X s.heap (N++foot M) M l us->Q us {s with heap:=h'}):wpAny (model X.prog X.w) A (unpackItems u k none) Q E0 s:=by
 have ext:∀{h':ay},oa s.heap.objs.size s.heap h'->All s.heap h':=λ{h'} he b o e=>he b o (λq=>by rw[q,bG] at e;(injection e)) e
 have tup:∀{a:ag}{vs:Array aa},u=.ref a->IsTup s.heap a vs->VL X s.heap (N++foot M) M l vs.toList->wpAny (model X.prog X.w) A (unpackItems u k none) Q E0 s:=λ{a vs} hu ht vl=>by
  subst hu
  have:k=vs.size:=by refine eV hk (ah vl.len ?_);simp
  subst this;exact unpackItems_tuple hh ht λh' he=>hq _ h' (ext he) vl
 have lst:∀{a:ag}{vs:Array aa},u=.ref a->s.heap.IsList a vs->VL X s.heap (N++foot M) M l vs.toList->wpAny (model X.prog X.w) A (unpackItems u k none) Q E0 s:=λ{a vs} hu ht vl=>by
  subst hu
  have:k=vs.size:=by refine eV hk (ah vl.len ?_);simp
  subst this;exact r_ hh ht λh' he=>hq _ h' (ext he) vl
 induction v using V.casesOn with
 |tup m=>(injection e with g1;subst g1);refine iZ q λa vs hu Y ht vl=>?_;exact tup hu ht vl
 |lst m=>(injection e with g1;subst g1);refine iZ q λa vs hu Y ht vl=>?_;exact lst hu ht vl
 |loc i=>refine iZ (oy rd (show dF (bk B i)=.ok l from e) q) λa vs Y hu ht vl=>?_;exact lst hu ht vl
 |_=>exact Hd e
noncomputable def putAll:List (Nat×V)->Env->Env
 | [],e=>e
 |p::r,e=>putAll r (eS e p.1 p.2)
noncomputable def vL:V->List V
 |.cons a r=>a::vL r
 |_=>[]
theorem yn{t:List Nat}:∀{l:V}{e e':Env},u6 t l e=.ok e'->e'=putAll (t.zip (vL l)) e/\aO l=t.length/\(vL l).length=t.length:=by
 induction t with
 |nil=>intro l e e' h;refine vn nV h λhl h=>?_;subst hl;exact iOE h (bL rfl rfl rfl)
 |cons x t ih=>intro l e e' h;refine lW nV h λa r hl h=>c_ (ih h) λh1 h2 h3=>?_;subst hl;exact bL h1 (congrArg aZ h2) (congrArg aZ h3)
inductive Pz (X:Cx) (h:ay) (Z:List ag) (M:List Lc) (env:PySem.Env):List (Nat×V)->List (Str×aa)->Prop
 |nil:Pz X h Z M env [] []
 |cons {p q r t} (a:p.1=idOf q.1) (b:bz q.1=true) (c:env.kindOf q.1=some .local∨env.kindOf q.1=some .cell) (d:VR X h Z M p.2 q.2) (e:Pz X h Z M env r t):Pz X h Z M env (p::r) (q::t)
theorem Pz.mono(P:eK Z M h Z' aK h'){ps:List (Nat×V)}{xs:List (Str×aa)}(z:Pz X h Z M env ps xs):Pz X h' Z' aK env ps xs:=by
 induction z with
 |nil=>exact .nil
 |cons a b c d _ ih=>exact .cons a b c (VR.mono P _ d) ih
theorem Pz.app{ps ps':List (Nat×V)}{xs Ak:List (Str×aa)}(z:Pz X h Z M env ps xs)(z':Pz X h Z M env ps' Ak):Pz X h Z M env (ps++ps') (xs++Ak):=by
 induction z with
 |nil=>exact z'
 |cons a b c d _ ih=>exact .cons a b c d ih
theorem Pz.rev{ps:List (Nat×V)}{xs:List (Str×aa)}(z:Pz X h Z M env ps xs):Pz X h Z M env ps.reverse xs.reverse:=by
 induction z with
 |nil=>exact .nil
 |cons a b c d _ ih=>exact ah iz (ah iz (ih.app (.cons a b c d .nil)))
theorem Pz.of{ns:List Str}:∀{l:V}{us:List aa},VL X h Z M l us->aO l=ns.length->(∀x∈ns,bz x=true/\(env.kindOf x=some .local∨env.kindOf x=some .cell))->Pz X h Z M env ((ns.map idOf).zip (vL l)) (ns.zip us):=by
 induction ns with
 |nil=>intro l us q hl _;exact .nil
 |cons x ns ih=>
  intro l us q hl hk
  rcases q.shape with⟨rfl,rfl⟩|⟨a,t,y,ys,rfl,rfl,q1,q2⟩
  ·exact gr hl
  ·exact .cons rfl (hk x aW).1 (hk x aW).2 q1 (ih q2 (fO hl) λy hy=>hk y (aP _ hy))
inductive Fs (X:Cx) (A:aM) (env:PySem.Env):List (aa->Sem Unit)->List (Str×aa)->Prop
 |nil:Fs X A env [] []
 |cons {f q r t} (a:∀v(Q:Unit->aj->Prop) s,wpAny (model X.prog X.w) A (storeName env q.1 v) Q E0 s->wpAny (model X.prog X.w) A (f v) Q E0 s) (b:Fs X A env r t):Fs X A env (f::r) (q::t)
theorem vV(f:Fe N env){Q:Unit->aj->Prop}{fs:List (aa->Sem Unit)}{xs:List (Str×aa)}(z:Fs X A env fs xs):∀{ps:List (Nat×V)}{E:Env}{s:aj},Pz X s.heap (N++foot M) M env ps xs->R0 X B.bk N M s.heap->Rn X env E N M s.heap->
  (∀s',Gs (own env) M s M s'->R0 X B.bk N M s'.heap->Rn X env (putAll ps E) N M s'.heap->((∀q∈xs,env.kindOf q.1=some .local)->∀b o,b≠env.locals->s.heap.get? b=some o->s'.heap.get? b=some o)->Q () s')->wpAny (model X.prog X.w) A (assignInOrder fs (xs.map (·.2))) Q E0 s:=by
 induction z with
 |nil=>intro ps E s pz rd rn hq;cases pz;exact assignInOrder_nil (hq s Gs.refl rd rn λY Y Y Y e=>e)
 |cons a _ ih=>
  intro ps E s pz rd rn hq
  cases pz with
  |cons p1 p2 p3 p4 p5=>
  refine assignInOrder_cons (a _ _ _ (rr f rd rn p4 p2 p3 λaw hg ho k cj fu kl=>?_));have gg:=ry f rd hg ho k;refine ih (p5.mono (gg.hS λb hb=>fA f hb)) cj fu λs₂ k2 eh gP kl2=>hq s₂ (gg.tr (λb hb=>fA f hb) rd cj k2) eh (by rw[←p1] at gP;exact gP) λha b o n e=>kl2 (λq hq=>ha q (aP _ hq)) b o n (kl (ha _ aW) b o n e)
theorem mR:∀{ps:List (Nat×V)}{E:Env}{x:Nat},x∉ps.map (·.1)->a8 (putAll ps E) x=a8 E x:=by
 intro zr
 induction zr with
 |nil=>
  exact @λ_ _ _=>rfl
 |cons p ps bN=>
  exact @λE x h=>by
   rw[dB,aR,not_or] at h;show a8 (putAll ps (eS E p.1 p.2)) x=_;exact ah (bN h.2) (ah (aG _ _ _ _ (λe=>h.1 e.symm)) rfl)
theorem qb:∀{ps:List (Nat×V)}{E:Env}{p:Nat×V},(ps.map (·.1)).Nodup->p∈ps->a8 (putAll ps E) p.1=.ok p.2
 |q::ps,E,p,nd,hp=>by
  rw[dB,gW] at nd;show a8 (putAll ps (eS E q.1 q.2)) p.1=_
  rcases aR.mp hp with rfl|hp
  ·rw[mR nd.1,bf]
  ·exact qb nd.2 hp
theorem CL{ps:List (Nat×V)}{E:Env}(nd:(ps.map (·.1)).Nodup)(x:Nat):a8 (putAll ps E) x=a8 (putAll ps.reverse E) x:=by
 have nd':(ps.reverse.map (·.1)).Nodup:=by refine ah List.map_reverse ?_;exact(List.reverse_perm _).nodup_iff.mpr nd
 by_cases hx:x∈ps.map (·.1)
 ·refine aL (dC.mp hx) λp hp ou=>?_;subst ou;exact ah (qb nd hp) (ah (qb nd' (List.mem_reverse.mpr hp)) rfl)
 ·exact ah (mR hx) (ah (mR (by rw[List.map_reverse,List.mem_reverse];exact hx)) rfl)
end
section
variable{X:Cx}{n:Nat}{nm:Nm}{A:aM}{F N:List ag}{M aK az:List Lc}{s s' ru aw:aj}{v w x:V}{u u':aa}{B ao μ₁:Mm}{env:PySem.Env}{E eR:Env}{G:Gt}{h h':ay}{Z Z':List ag}{prog:Program}{wd:aY}{acW:aa->aj->Prop}
noncomputable def xw(xs:List (Str×Pos)):List PySem.Expr:=xs.map λp=>.Name p.1 p.2
theorem Ez:∀{xs:List (Str×Pos)},assignEach (xw xs) env=xs.map λp=>(false,assign (.Name p.1 p.2) env):=by
 intro zr
 induction zr with
 |nil=>
  exact rfl
 |cons p r bN=>
  exact congrArg (cf _) (bN)
theorem Jc:∀{xs:List (Str×Pos)},(xs.map λp=>(false,assign (.Name p.1 p.2) env)).findIdx? (·.1)=none:=by
 intro zr
 induction zr with
 |nil=>
  exact rfl
 |cons p r bN=>
  exact by refine ah dB (ah (List.findIdx?_cons) ?_);simp only[zm,if_false];refine ah bN ?_;rfl
theorem Fs.nms{xs:List (Str×Pos)}:∀{us:List aa},us.length=xs.length->Fs X A env ((xs.map λp=>(false,assign (.Name p.1 p.2) env)).map (·.2)) ((xs.map (·.1)).zip us):=by
 induction xs with
 |nil=>intro us h;exact .nil
 |cons p r ih=>
  intro us h
  induction us using bE with
  |nil=>exact gr h
  |cons u t=>exact .cons (λv Q s k=>assign_Name k) (ih (fO h))
theorem Fs.bind{ns:List Str}:∀{us:List aa},us.length=ns.length->Fs X A env (ns.map λn=>bindName env n) (ns.zip us):=by
 induction ns with
 |nil=>intro us h;exact .nil
 |cons p r ih=>
  intro us h
  induction us using bE with
  |nil=>exact gr h
  |cons u t=>exact .cons (λv Q s k=>bindName_ k) (ih (fO h))
theorem tG:∀{ns:List Str}{us:List aa},us.length=ns.length->(ns.zip us).map (·.2)=us
 | [],[],_=>rfl
 |p::r,u::t,h=>congrArg (cf u) (tG (fO h))
 | [],_::_,h=>by exact gr h
 |_::_,[],h=>by exact gr h
theorem EA{H β:Type}:∀{a:List H}{b:List β},a.length=b.length->(a.zip b).reverse=a.reverse.zip b.reverse
 | [],[],_=>rfl
 |x::a,y::b,h=>by
  refine ah zx (ah iz (ah iz (ah iz (ah (EA (fO h)) (ah (List.zip_append (by simpa using fO h)) ?_)))));rfl
 | [],_::_,h=>by exact gr h
 |_::_,[],h=>by exact gr h
theorem Ng{ns:List Nat}:∀{vs:List V},vs.length=ns.length->(ns.zip vs).map (·.1)=ns:=by
 induction ns with
 |nil=>intro vs h;rfl
 |cons a r ih=>intro vs h;induction vs using bE with
  |nil=>exact gr h
  |cons y t=>exact congrArg (cf a) (ih (fO h))
noncomputable def TZ:PySem.Expr->Bool
 |.Tuple vs _ _=>vs.all (foldedForSure 8)|| !(vs.all (constantsAlone 8))
 |_=>true
theorem Jd:∀{xs:List (Str×Pos)}{f:PySem.Expr->Option Str},(∀p∈xs,∀y,f (.Name p.1 p.2)=some y->y=p.1)->((xw xs).filterMap f).length≤xs.length/\(((xw xs).filterMap f).length=xs.length->(xw xs).filterMap f=xs.map (·.1)):=by
 intro zr
 induction zr with
 |nil=>
  exact @λf _=>⟨bT _,λY=>rfl⟩
 |cons p r bN=>
  exact @λf h=>by
   refine aD (bN (f:=f) λq hq=>h q (aP _ hq)) λh1 h2=>?_;show(ua f (.Name p.1 p.2::xw r)).length≤_/\((ua f (.Name p.1 p.2::xw r)).length=_->ua f (.Name p.1 p.2::xw r)=_);refine kY (f (.Name p.1 p.2)) (λe=>?_) (λy e=>?_)
   ·refine ah (List.filterMap_cons_none e) ?_;exact⟨ur h1,λk=>absurd k (qG (Nat.lt_succ_of_le h1))⟩
   ·refine ah (List.filterMap_cons_some e) (ah (h p aW y e) ?_);exact⟨Nat.succ_le_succ h1,λk=>congrArg (cf p.1) (h2 (fO k))⟩
theorem swI{o:Option (List Str)}{c:Prop}[Decidable c]{b:Sem (Option (List Str))}(h:¬c->b=pure none∨b=pure o):(if c then pure none else b)=pure none∨(if c then pure none else b)=pure o:=by
 by_cases q:c
 ·rw[if_pos q];exact .inl rfl
 ·rw[if_neg q];exact h q
theorem swJ{o:Option (List Str)}{c:Prop}[Decidable c]{a b:Sem (Option (List Str))}(n:¬c)(h:b=pure o):(if c then a else b)=pure none∨(if c then a else b)=pure o:=by
 rw[if_neg n];exact .inr h
theorem Je{xs:List (Str×Pos)}{k tp}{value:PySem.Expr}(hv:TZ value=true):swappedStores [.Tuple (xw xs) k tp] value env=pure none∨swappedStores [.Tuple (xw xs) k tp] value env=pure (some (xs.map (·.1))):=by
 have hl:(xw xs).length=xs.length:=bx _
 cases value with
 |Tuple vs _ _=>
  refine swI λY=>?_;refine swI λY=>?_;refine swI λhn=>?_;refine swI λh8=>?_;refine swJ (λh9=>?_) (congrArg (λl=>(pure (some l):Sem (Option (List Str)))) ((Jd λp hp y hy=>?_).2 ?_))
  ·rcases ly.mp (show(vs.all (foldedForSure 8)|| !(vs.all (constantsAlone 8)))=true from hv) with h|h
   ·exact absurd h h8
   ·rw[h9] at h;exact absurd h nT
  ·refine Decidable.byCases (p:=(env.kindOf p.1==some NameKind.local&&p.2.line==((Option.map (λx:PySem.Expr=>x.pos.line) (xw xs).head?).getD 0))=true) (λq=>?_) λq=>?_
   ·have hy:(if _ then some p.1 else none)=some y:=hy;rw[if_pos q] at hy;exact Af hy rfl
   ·have hy:(if _ then some p.1 else none)=some y:=hy;rw[if_neg q] at hy;injection hy
  ·rw[Bool.or_eq_true,bne_iff_ne] at hn;exact(Decidable.not_not.mp λq=>hn (.inl q)).trans hl
 |_=>exact .inl rfl
theorem EB{t value:PySem.Expr}{l:Nat}(h:k_ value=false):swapsWithSole [t] value l env=pure false:=oL (t:=some t) h
theorem T3{xs:List (Str×Pos)}{k}{tp pos:Pos}{e:PySem.Expr}{a:C}(ha:Es X n nm e a)(hc:k_ e=false)(hs:TZ e=true)(nd:(xs.map λp=>idOf p.1).Nodup)(hx:∀y∈xs.map (·.1),bz y=true/\(nm.lookup y=some .local∨nm.lookup y=some .cell)):Ss X n nm (.Assign [.Tuple (xw xs) k tp] e pos) (w1 (gK (xs.map λp=>idOf p.1)) a):=λK hK E B o=>by
 refine bJ (ee o) λv μ₁ h1 o1 h2=>?_;have o2:qa (Md (pU (xs.map λp=>idOf p.1) (items v μ₁) E) μ₁):=o1;refine Ml (items v μ₁) (λhi=>?_) (λl hi=>?_)
 ·rw[hi] at o2;exact o2.elim
 rw[hi] at o2;refine VS (u6 (xs.map λp=>idOf p.1) l E) (λhz=>?_) (λε₁ hz=>?_)
 ·rw[show pU _ (.ok l) E=_ from hz] at o2;exact o2.elim
 rw[show pU _ (.ok l) E=_ from hz] at o2;refine eQ λkk=>?_;refine c_ (yn hz) λz1 z2 z3=>?_
 have hr:w1 (gK (xs.map λp=>idOf p.1)) a K E B=.dw ε₁ μ₁:=by
  refine ah (show w1 (gK (xs.map λp=>idOf p.1)) a K E B=_ from h2) ?_;show Md (pU (xs.map λp=>idOf p.1) (items v μ₁) E) μ₁=_;refine ah hi (ah (show pU _ (.ok l) E=_ from hz) ?_)
  rfl
 have hm:(xs.map λp=>idOf p.1)=(xs.map (·.1)).map idOf:=by refine ah fM ?_;rfl
 have hlen:aO l=xs.length:=by refine ah z2 ?_;exact bx _
 refine aD (ha K hK E B v μ₁ h1 o2) λo0 g1=>?_;refine kk ?_;refine ah hr ?_;refine⟨o0,λenv A N M s hn rm f rd rn=>?_⟩
 have kx:∀y∈xs.map (·.1),bz y=true/\(env.kindOf y=some .local∨env.kindOf y=some .cell):=by
  intro y hy;have:=hx y hy;rw[←hn] at this;exact this
 rcases Je (env:=env) (xs:=xs) (k:=k) (tp:=tp) hs with hw|hw
 ·refine Assign_Tuple (Pe.go (H:=aa) (t:=eval e env) f rd rn (g1 env A N M s hn rm f rd rn) λu az aw k1 cj fu q1=>?_) (EB hc) hw;rw[assign_Tuple];refine ax (e7 ?_);unfold unpack;rw[Ez,Jc,bx];refine ax (eD (ym cj hi q1 rm.1 hlen λus fJ ka vl=>?_));have Qh:us.length=(xs.map (·.1)).length:=by rw[bx,←hlen,vl.len]
  have eh:=R0.all cj ka;have k2:Gw az aw az {aw with heap:=fJ}:=Gw.all ka;have vl:=VL.mono (k2.hS (N:=N)) _ vl;have gP:=fu.gw f cj k2;have e1:=vV (B:=μ₁) f (Fs.nms (X:=X) (A:=A) (env:=env) (xs:=xs) (by simpa using Qh)) (Pz.of vl (by simpa using hlen) kx) eh gP (Q:=λY=>PS X (own env) env N M s (.dw ε₁ μ₁) .next) λcR k3 kA vR Y=>⟨az,(k1.trans k2).gs.tr (λb hb=>fA f hb) rd eh k3,kA,by rw[z1,hm];exact vR⟩;rw[tG Qh] at e1;exact e1
 ·refine Assign_Tuple_swapped (Pe.go (H:=aa) (t:=eval e env) f rd rn (g1 env A N M s hn rm f rd rn) λu az aw k1 cj fu q1=>?_) (EB hc) hw;refine ym cj hi q1 rm.1 (by rw[bx];exact hlen) λus fJ ka vl=>?_;have Qh:us.length=(xs.map (·.1)).length:=by rw[bx,←hlen,vl.len]
  have eh:=R0.all cj ka;have k2:Gw az aw az {aw with heap:=fJ}:=Gw.all ka;have vl:=VL.mono (k2.hS (N:=N)) _ vl;have gP:=fu.gw f cj k2;have pz:=(Pz.of (X:=X) (h:=fJ) (Z:=N++foot az) (M:=az) (env:=env) vl (by simpa using hlen) kx).rev;rw[EA Qh.symm] at pz;have YU:us.reverse.length=(xs.map (·.1)).reverse.length:=by refine ah zy (ah zy ?_);exact Qh
  have e1:=vV (B:=μ₁) f (Fs.bind (X:=X) (A:=A) (env:=env) YU) pz eh gP (Q:=λY=>PS X (own env) env N M s (.dw ε₁ μ₁) .next) λcR k3 kA vR Y=>(bS az ((k1.trans k2).gs.tr (λb hb=>fA f hb) rd eh k3) kA (vR.same λx=>?_))
  ·rw[tG YU] at e1;exact e1
  ·refine ah z1 (ah hm ?_);refine CL ?_ x;refine ah (Ng (by rw[z3,←hm])) (eV hm ?_);exact nd
end
set_option tactic.hygienic true
def AW(nm:Nm):PySem.Expr->Prop|.Name y _=>nm.lookup y=some .local|.Tuple es _ _=>∃xs,es=xw xs/\∀y∈xs.map (·.1),nm.lookup y=some .local|_=>False
def Tq(X:Cx)(nm:Nm)(e:PySem.Expr)(t:Tg):Prop:=∀v E(B:Mm) eR,t v E B=.ok eR->
 ∀env A N M s u(Q:Unit->aj->Prop),env.scope.names=nm->A.handled=none->Fe N env->Rd X N M s B->Rn X env E N M s.heap->Vr X N M s v u->
  (∀s',Gs (own env) M s M s'->Rd X N M s' B->Rn X env eR N M s'.heap->(AW nm e->∀b o,b≠env.locals->s.heap.get? b=some o->s'.heap.get? b=some o)->Q () s')->wpAny (model X.prog X.w) A (assign e env u) Q E0 s
section
variable{X:Cx}{n:Nat}{nm:Nm}{A:aM}{F N:List ag}{M aK az:List Lc}{s s' ru aw:aj}{v w x:V}{u u':aa}{B ao μ₁:Mm}{env:PySem.Env}{E eR:Env}{G:Gt}{h h':ay}{Z Z':List ag}{prog:Program}{wd:aY}{acW:aa->aj->Prop}
theorem Jf{y:Str}{p:Pos}(hy:bz y=true)(hk:nm.lookup y=some .local∨nm.lookup y=some .cell):Tq X nm (.Name y p) (iX (idOf y)):=λv E B eR e env A N M s u Q hn hh f rd rn q hq=>by
 injection e with g1;subst g1;exact assign_Name (rr f rd rn q hy (by rw[←hn] at hk;exact hk) λs₂ hg ho k2 eh gP kl=>hq s₂ (ry f rd hg ho k2) eh gP λz=>kl (by rw[←hn] at z;exact z))
theorem Nh{xs:List (Str×Pos)}:∀{ys:List (Str×Pos)},xw xs=xw ys->xs.map (·.1)=ys.map (·.1):=by
 induction xs with
 |nil=>
  intro ys h
  induction ys using bE with
  |nil=>rfl
  |cons q t=>exact nomatch h
 |cons p r ih=>
  intro ys h
  induction ys using bE with
  |nil=>exact nomatch h
  |cons q t=>
   have h:PySem.Expr.Name p.1 p.2::xw r=.Name q.1 q.2::xw t:=h;injection h with h1 h2
   injection h1 with h3;show p.1::_=q.1::_;rw[h3,ih h2]
theorem EC{xs:List (Str×Pos)}{k}{tp:Pos}(hx:∀y∈xs.map (·.1),bz y=true/\(nm.lookup y=some .local∨nm.lookup y=some .cell)):Tq X nm (.Tuple (xw xs) k tp) (gK (xs.map λp=>idOf p.1)):=λv E B eR e env A N M s u Q hn hh f rd rn q hq=>by
 have e:pU (xs.map λp=>idOf p.1) (items v B) E=.ok eR:=e;refine Ml (items v B) (λhi=>?_) (λl hi=>?_)
 ·rw[hi] at e;exact absurd e nV
 rw[hi] at e;refine c_ (yn (show u6 _ l E=.ok eR from e)) λz1 z2 z3=>?_;have hm:(xs.map λp=>idOf p.1)=(xs.map (·.1)).map idOf:=by refine ah fM ?_;rfl
 have hlen:aO l=xs.length:=by refine ah z2 ?_;exact bx _
 have kx:∀y∈xs.map (·.1),bz y=true/\(env.kindOf y=some .local∨env.kindOf y=some .cell):=by
  intro y hy;have:=hx y hy;rw[←hn] at this;exact this
 rw[assign_Tuple];refine ax (e7 ?_);unfold unpack;rw[Ez,Jc,bx];refine ax (eD (ym rd hi q hh hlen λus fJ ka vl=>?_));have Qh:us.length=(xs.map (·.1)).length:=by rw[bx,←hlen,vl.len]
 have k2:Gw M s M {s with heap:=fJ}:=Gw.all ka;have eh:=R0.all rd ka;have e1:=vV (B:=B) f (Fs.nms (X:=X) (A:=A) (env:=env) (xs:=xs) (by simpa using Qh)) (Pz.of (VL.mono (k2.hS (N:=N)) _ vl) (by simpa using hlen) kx) eh (rn.gw f rd k2) (Q:=Q) λcR k3 kA vR kl=>hq cR (k2.gs.tr (λb hb=>fA f hb) rd eh k3) kA (by rw[z1,hm];exact vR) λz b o n e=>kl (λq hq=>?_) b o n (ka b o e)
 ·rw[tG Qh] at e1;exact e1
 ·refine aL z λAk he hl=>?_;have this:=Nh he;rw[←this,←hn] at hl;exact hl _ (List.of_mem_zip hq).1
theorem rz{c:C}{b:CS}{K:Kc}{t:PySem.Expr}{bd:List PySem.Stmt}(hK:KS X n K)(hc:Ts X n nm t c)(hb:Sq X n nm bd b):∀(k:Nat)(E:Env)(B:Mm),qa (lV c b K k E B)->Ok B:=by
 intro zr
 induction zr with
 |zero=>
  exact @λ_ _ o=>o.elim
 |succ k bN=>
  exact @λE B o=>by
   refine bJ (yj (show qa (Aa (kE (c K E B)) (λB=>j8 (b K E B) (lV c b K k)) (RS.dw E)) from o)) λy μ₁ h3 o1 Y=>?_;refine(hc K hK E B y μ₁ h3 ?_).1
   induction y with
   |false=>exact o1
   |true=>
    have o1:qa (j8 (b K E μ₁) (lV c b K k)):=o1;refine(hb K hK E μ₁ ?_).1
    cases hr:b K E μ₁ with
    |no=>rw[hr] at o1;exact o1.elim
    |dw cz aE=>rw[hr] at o1;exact bN cz aE o1
    |cont cz aE=>rw[hr] at o1;exact bN cz aE o1
    |brk cz aE=>rw[hr] at o1;exact o1
    |ret Ni aE=>rw[hr] at o1;exact o1
theorem T4{pos:Pos}{t:PySem.Expr}{bd:List PySem.Stmt}{c:C}{b:CS}(hc:Ts X n nm t c)(hb:Sq X n nm bd b):Ss X n nm (.While t bd [] pos) (B' c b):=λK hK E B o=>by
 refine⟨rz hK hc hb _ _ _ o,λenv A N M s hn rm f rd rn=>wpAny_While ?_⟩;refine codeAny_loop' rfl (λk s'=>∃eR ao aK,qa (lV c b K k eR ao)/\Rd X N aK s' ao/\Rn X env eR N aK s'.heap/\Gs (own env) M s aK s'/\lV c b K k eR ao=B' c b K E B) ?_ turns (W0 E B M o rd rn Gs.refl rfl);intro k s' pD;refine HL pD λeR ao aK o' mx T5 g' er=>?_;clear pD;refine eV er ?_
 induction k with
 |zero=>exact o'.elim
 |succ k=>
 refine bJ (yj (show qa (Aa (kE (c K eR ao)) (λB=>j8 (b K eR B) (lV c b K k)) (RS.dw eR)) from o')) λy μ₁ h3 o1 h4=>?_;have hF:∀b∈own env,b∈N:=λb hb=>fA f hb
 have o0:Ok μ₁:=by
  induction y with
  |false=>exact o1
  |true=>
   have o1:qa (j8 (b K eR μ₁) (lV c b K k)):=o1;refine(hb K hK eR μ₁ ?_).1
   cases hr:b K eR μ₁ with
   |no=>rw[hr] at o1;exact o1.elim
   |dw cz aE=>rw[hr] at o1;exact rz hK hc hb k cz aE o1
   |cont cz aE=>rw[hr] at o1;exact rz hK hc hb k cz aE o1
   |brk cz aE=>rw[hr] at o1;exact o1
   |ret Ni aE=>rw[hr] at o1;exact o1
 rw[show lV c b K (k+1) eR ao=_ from h4] at er ⊢;have YV:Rm n (A.mark none):=rm;show wpAny _ (A.mark none) ((whileTurn t bd [] env).onRaise (λx=>do noteFrame x env;theTreesLotGoes x)) _ _ s';refine wpAny_noted ?_;unfold whileTurn;refine ax (aA ((hc K hK eR ao y μ₁ h3 o0).2 env (A.mark none) N aK s' hn YV f mx T5) (λtt aw vP=>?_) λY Y e=>e.elim);refine aD vP λht kN=>?_;clear vP;refine aL kN λaz k1 cj=>?_;clear kN;subst ht;have fu:=T5.gw f mx k1;have g1:=g'.tr hF rd mx k1.gs
 induction tt with
 |false=>exact ax (qO (aX (bS az g1 cj fu)))
 |true=>
  have er:j8 (b K eR μ₁) (lV c b K k)=B' c b K E B:=er;have o1:qa (j8 (b K eR μ₁) (lV c b K k)):=o1;show wpAny _ _ (execs bd env >>= _) _ _ aw;have g2:=(hb K hK eR μ₁);show wpAny _ _ (execs bd env >>=λz=>match z with|.next|.cont=>again (.whileLoop t bd [] env)|.brk=>pure (.done .next)|.ret v=>pure (.done (.ret v))) (λfin s'=>match fin with|.done fl=>PS X (own env) env N M s (j8 (b K eR μ₁) (lV c b K k)) fl s'|.again c'=>_) _ aw
  cases hr:b K eR μ₁ with
  |no=>rw[hr] at o1;exact o1.elim
  |dw cz aE=>
   rw[hr] at g2 o1 er;refine ax (aA ((g2 (rz hK hc hb k cz aE o1)).2 env (A.mark none) N az aw hn YV f cj fu) (λfl s₂ p=>?_) λY Y e=>e.elim)
   induction fl<;>first|exact p.elim|skip
   refine bQ p λaN k2 eh gP=>?_;exact aX (.inl ⟨rfl,k,jA k,cz,aE,aN,o1,eh,gP,g1.tr hF rd cj k2,rfl⟩)
  |cont cz aE=>
   rw[hr] at g2 o1 er;refine ax (aA ((g2 (rz hK hc hb k cz aE o1)).2 env (A.mark none) N az aw hn YV f cj fu) (λfl s₂ p=>?_) λY Y e=>e.elim)
   induction fl<;>first|exact p.elim|skip
   refine bQ p λaN k2 eh gP=>?_;exact aX (.inl ⟨rfl,k,jA k,cz,aE,aN,o1,eh,gP,g1.tr hF rd cj k2,rfl⟩)
  |brk cz aE=>
   rw[hr] at g2 o1;refine ax (aA ((g2 o1).2 env (A.mark none) N az aw hn YV f cj fu) (λfl s₂ p=>?_) λY Y e=>e.elim)
   induction fl<;>first|exact p.elim|skip
   refine bQ p λaN k2 eh gP=>?_;exact aX (bS aN (g1.tr hF rd cj k2) eh gP)
  |ret Ni aE=>
   rw[hr] at g2 o1;refine ax (aA ((g2 o1).2 env (A.mark none) N az aw hn YV f cj fu) (λfl s₂ p=>?_) λY Y e=>e.elim)
   induction fl<;>first|exact p.elim|skip
   refine bQ p λaN k2 eh q2=>?_;exact aX (bS aN (g1.tr hF rd cj k2) eh q2)
end
set_option tactic.hygienic false
set_option backward.match.sparseCases true
structure AX(X:Cx)(A:aM)(target:PySem.Expr)(v x:V)(u it:aa)(fp:List ag)(J:Nat->ay->Prop):Prop where
 self:∀(s:aj)(Q:aa->aj->Prop)(acW:aa->aj->Prop),J 0 s.heap->Q it s->wpAny (model X.prog X.w) A (pyIter it) Q acW s
 xx:∀h h',J 0 h->All h h'->J 0 h'
 Gh:∀k h h',J (k+1) h->(∀b∈fp,∀o,h.get? b=some o->h'.get? b=some o)->J (k+1) h'
 item:∀k y(B:Mm) N M(s:aj)(Q:aa->aj->Prop),drawn v k B=.ok y->J k s.heap->R0 X B.bk (fp++N) M s.heap->VR X s.heap ((fp++N)++foot M) M x u->
  (∀w(s':aj),J (k+1) s'.heap->(∀b o,b∉fp->s.heap.get? b=some o->s'.heap.get? b=some o)->(∀b∈fp,∃o,s'.heap.get? b=some o)->s'.gens=s.gens->s'.os=s.os->VR X s'.heap ((fp++N)++foot M) M y w->Q w s')->
  wpAny (model X.prog X.w) A (pyNext it) (λr aw=>∃w,r=some w/\wpAny (model X.prog X.w) A (letOwnedTupleGo target it w) (λY s'=>Q w s') E0 aw) E0 s
 fin:∀k(B:Mm) N M(s:aj)(Q:Option aa->aj->Prop),drawn v k B=.fin->J k s.heap->R0 X B.bk (fp++N) M s.heap->VR X s.heap ((fp++N)++foot M) M x u->
  (∀s':aj,(∀b o,b∉fp->s.heap.get? b=some o->s'.heap.get? b=some o)->s'.gens=s.gens->s'.os=s.os->Q none s')->
  wpAny (model X.prog X.w) A (pyNext it) Q E0 s
section
variable{X:Cx}{n:Nat}{nm:Nm}{A:aM}{F N fp:List ag}{M aK az ρ₀:List Lc}{s s' ru aw s₀:aj}{v w x:V}{u u' it:aa}{B ao μ₁:Mm}{env:PySem.Env}{E eR:Env}{G:Gt}{h h':ay}{Z Z':List ag}{prog:Program}{wd:aY}{acW:aa->aj->Prop}
theorem oN(k:∀b o,b∉fp->h.get? b=some o->h'.get? b=some o):eK ((fp++N)++foot M) M h (N++foot M) M h':=
 ⟨λb o m e=>k b o (λq=>m (a0 _ (a0 _ q))) e,λb m q=>absurd (by
  rcases bp.mp m with m|m
  ·exact a0 _ (bD _ m)
  ·exact bD _ m) q,λY Y e=>e⟩
theorem R0.off{I:List O}(r:R0 X I (fp++N) M h)(k:∀b o,b∉fp->h.get? b=some o->h'.get? b=some o)(hd:∀b∈fp,b∉N):R0 X I N M h':=by
 have lo:∀{b o},X.base.get? b=some o->b∉fp:=λ{b o} e q=>by
  have:=r.low b (a0 _ (a0 _ q));rw[this] at e;(injection e)
 refine⟨λb o e=>k b o (lo e) (r.base b o e),SR.gen (oN k) (λp hp b hb o e=>k b o (λq=>?_) e) r.bk,r.nodup,λa m q=>r.apart a m (bD _ q),λa m=>r.low a ?_,λa m=>?_⟩
 ·obtain⟨i,hi,ep⟩:=jP hp;exact r.apart b (dO (i:=i) (ah (eZ hi) (ah ep rfl)) hb) (a0 _ q)
 ·rcases bp.mp m with m|m
  ·exact a0 _ (bD _ m)
  ·exact bD _ m
 ·refine bc (r.live a (bD _ m)) λo e=>?_;exact⟨o,k a o (λq=>hd a q m) e⟩
theorem Rn.to{N':List ag}(r:Rn X env E N M h)(P:eK (N++foot M) M h (N'++foot aK) aK h')(k:∀b∈own env,∀o,h.get? b=some o->h'.get? b=some o):Rn X env E N' aK h':=by
 obtain⟨⟨m,h1,h2⟩,h3,h4⟩:=r;have kc:∀{x c},env.cells.lookup x=some c->c∈own env:=λ{x c} e=>aP _ (dC.mpr (aQ _ (f_ e) rfl));refine⟨(aQ m (h1.at (k _ aW)) (λx v a b c=>let ⟨u,d,q⟩:=h2 x v a b c;(aQ u d (VR.mono P v q)))),λx c hc=>?_,λx v a b c=>?_⟩
 ·refine a6 (h3 x c hc) λtb o ho hd=>?_;exact bA tb o (k c (kc hc) o ho) hd
 ·refine eQ λkk=>?_;refine bJ (h4 x v a b c) λc u hc pL q=>?_;refine aL pL λo ho hd=>?_;refine kk ?_;clear pL;exact dy c u hc (aQ o (k c (kc hc) o ho) hd) (VR.mono P v q)
theorem Gs.step(g:Gs F ρ₀ s₀ M s)(k:∀b o,b∉fp->s.heap.get? b=some o->s'.heap.get? b=some o)(hf:∀b∈fp,s₀.heap.get? b=none)(hg:s'.gens=s.gens)(ho:s'.os=s.os):Gs F ρ₀ s₀ M s':=
 ⟨λb o n m e=>k b o (λq=>by rw[hf b q] at e;(injection e)) (g.keep b o n m e),g.fresh,g.pre,hg.trans g.gens,ho.trans g.os⟩
theorem AY{r:RS}{k:Env->Mm->RS}(hk:∀E B,qa (k E B)->Ok B)(o:qa (j8 r k)):qa r:=by
 induction r with
 |no=>exact o.elim
 |dw cz aE=>exact hk _ _ o
 |cont cz aE=>exact hk _ _ o
 |brk cz aE=>exact o
 |ret Ni aE=>exact o
theorem yo{t:Tg}{b:CS}{K:Kc}{bd:List PySem.Stmt}(hK:KS X n K)(hb:Sq X n nm bd b):∀(k j:Nat)(E:Env)(B:Mm),qa (forL t v b K k j E B)->Ok B:=by
 intro zr
 induction zr with
 |zero=>
  exact @λ_ _ _ o=>o.elim
 |succ k bN=>
  exact @λj E B o=>by
   have o:qa (@RD.rec (λY=>RS) RS.no (RS.dw E B) (λy=>q7 b K (t y E B) B (forL t v b K k (aZ j))) (drawn v j B)):=o;refine W6 (drawn v j B) (λhd=>?_) (λhd=>?_) (λy hd=>?_)
   ·rw[hd] at o;exact o.elim
   ·rw[hd] at o;exact o
   ·rw[hd] at o;have o:qa (q7 b K (t y E B) B (forL t v b K k (aZ j))):=o;refine VS (t y E B) (λht=>?_) (λε₁ ht=>?_)
    ·rw[ht] at o;exact o.elim
    ·rw[ht] at o;exact(hb K hK ε₁ B (AY (λE B o=>bN _ E B o) o)).1
theorem Jg{target:PySem.Expr}{t:Tg}{b:CS}{K:Kc}{bd:List PySem.Stmt}{J:Nat->ay->Prop}{r':RS}{R:Result->aj->Prop}
  (hK:KS X n K) (ht:Tq X nm target t) (hb:Sq X n nm bd b) (acU:AX X A target v x u it fp J) (hn:env.scope.names=nm) (rm:Rm n A) (f:Fe N env)
  {A1:List O} (Hf:R0 X A1 N ρ₀ s₀.heap) (hf:∀b∈fp,s₀.heap.get? b=none) {k:Nat} (hr:forL t v b K k 0 E B=r') (o:qa r')
  (rd:R0 X B.bk (fp++N) M s.heap) (rn:Rn X env E (fp++N) M s.heap) (q:VR X s.heap ((fp++N)++foot M) M x u) (g:Gs (own env) ρ₀ s₀ M s) (hj:J 0 s.heap)
  (hR:∀fl s',PS X (own env) env N ρ₀ s₀ r' fl s'->R (.ok fl) s'):codeAny (model X.prog X.w) A (.forLoop target it bd [] env) R s:=by
 have hF:∀b∈own env,b∈N:=λb hb=>fA f hb
 have hd:∀b∈fp,b∉N:=λb m q=>by
  refine bc (Hf.live b q) λo e=>?_;rw[hf b m] at e;(injection e)
 have sub:∀b∈N,b∈fp++N:=λb m=>bD _ m;have f':Fe (fp++N) env:=f.more sub;refine codeAny_forLoop_any (λk' s'=>∃j eR ao aK,forL t v b K k' j eR ao=r'/\R0 X ao.bk (fp++N) aK s'.heap/\Rn X env eR (fp++N) aK s'.heap/\VR X s'.heap ((fp++N)++foot aK) aK x u/\Gs (own env) ρ₀ s₀ aK s'/\J j s'.heap) ?_ k (w4 0 E B M hr rd rn q g hj);intro k' s' pD;obtain⟨j,eR,ao,aK,er,mx,T5,q',g',Qi⟩:=pD
 induction k' with
 |zero=>rw[←er] at o;exact o.elim
 |succ k'=>
 have er: @RD.rec (λY=>RS) RS.no (RS.dw eR ao) (λy=>q7 b K (t y eR ao) ao (forL t v b K k' (aZ j))) (drawn v j ao)=r':=er;refine W6 (drawn v j ao) (λhw=>?_) (λhw=>?_) (λy hw=>?_)
 ·rw[hw] at er;rw[←er] at o;exact o.elim
 ·rw[hw] at er;refine aA (acU.fin j ao N aK s' _ hw Qi mx q' λaw k1 hg ho=>?_) (λY Y e=>e) λY Y e=>e.elim;refine qO (hR _ _ ?_);refine eV er ?_;exact bS aK (g'.step k1 hf hg ho) (mx.off k1 hd) (T5.to (oN k1) λb m o e=>k1 b o (λq=>hd b q (hF b m)) e)
 ·rw[hw] at er;have er:q7 b K (t y eR ao) ao (forL t v b K k' (aZ j))=r':=er;refine VS (t y eR ao) (λhz=>?_) (λε₁ hz=>?_)
  ·rw[hz] at er;rw[←er] at o;exact o.elim
  rw[hz] at er;have er:j8 (b K ε₁ ao) (forL t v b K k' (aZ j))=r':=er;have ob:qa (b K ε₁ ao):=AY (λE B o=>yo hK hb _ _ E B o) (by refine ah er ?_;exact o)
  suffices hi:wpAny (model X.prog X.w) A (pyNext it) (λr aw=>∃w,r=some w/\wpAny (model X.prog X.w) A (letOwnedTupleGo target it w) (λY s'=>wpAny (model X.prog X.w) A (assign target env w) (λY s₂=>wpAny (model X.prog X.w) A (execs bd env) (λfl cR=>match fl with
    |.next|.cont=>∃m,m<k'+1/\∃j eR ao aK,forL t v b K m j eR ao=r'/\R0 X ao.bk (fp++N) aK cR.heap/\Rn X env eR (fp++N) aK cR.heap/\VR X cR.heap ((fp++N)++foot aK) aK x u/\Gs (own env) ρ₀ s₀ aK cR/\J j cR.heap
    |.brk=>R (.ok .next) cR
    |.ret v=>R (.ok (.ret v)) cR) E0 s₂) E0 s') E0 aw) E0 s' by
   refine aA hi (λr s₂ z=>?_) λY Y e=>e.elim;obtain⟨w,rfl,z⟩:=z;exact aA z (λY s' z=>aA z (λY Y z=>aA z (λfl Y z=>z) λY Y e=>e.elim) λY Y e=>e.elim) λY Y e=>e.elim
  refine acU.item j y ao N aK s' _ hw Qi mx q' λw aw YW k1 l1 hg ho qw=>?_;have kp:eK ((fp++N)++foot aK) aK s'.heap ((fp++N)++foot aK) aK aw.heap:=⟨λb o m e=>k1 b o (λq=>m (a0 _ (a0 _ q))) e,λY m q=>absurd m q,λY Y e=>e⟩;have k1':∀b o,b∉fp++N->s'.heap.get? b=some o->aw.heap.get? b=some o:=λb o m e=>k1 b o (λq=>m (a0 _ q)) e
  have cj:R0 X ao.bk (fp++N) aK aw.heap:=mx.chg k1' λb m=>by
   rcases bp.mp m with m|m
   ·exact l1 b m
   ·refine bc (mx.live b (sub b m)) λo e=>?_;exact⟨o,k1 b o (λq=>hd b q m) e⟩
  have fu:=T5.to (N':=fp++N) kp λb m o e=>k1 b o (λq=>hd b q (hF b m)) e;have g1:=g'.step k1 hf hg ho;refine aA (ht y eR ao ε₁ hz env A (fp++N) aK aw w (λY s₂=>∃h:Gs (own env) aK aw aK s₂,Rd X (fp++N) aK s₂ ao/\Rn X env ε₁ (fp++N) aK s₂.heap) hn rm.1 f' cj fu qw λs₂ a b c Y=>⟨a,b,c⟩) (λY s₂ vP=>?_) λY Y e=>e.elim;obtain⟨g2,eh,gP⟩:=vP;have YX:∀b∈own env,b∈fp++N:=λb hb=>fA f' hb
  have go:∀{cI:List Lc}{cR:aj},Gs (own env) aK aw cI cR->VR X cR.heap ((fp++N)++foot cI) cI x u/\Gs (own env) ρ₀ s₀ cI cR:=λ{cI cR} g3=>
   ⟨VR.mono (Gs.hS YX g3) x (VR.mono kp x q'),g1.tr hF Hf (cj.less sub) g3⟩
  have jo:∀{cI:List Lc}{cR:aj},Gs (own env) aK aw cI cR->J (j+1) cR.heap:=λ{cI cR} g3=>
   acU.Gh j _ _ YW λb m o e=>g3.keep b o (λq=>cj.apart b q (a0 _ m)) (λq=>hd b m (hF b q)) e
  have A2:=(hb K hK ε₁ ao ob).2 env A (fp++N) aK s₂ hn rm f' eh gP;refine aA A2 (λfl cR p=>?_) λY Y e=>e.elim
  cases YY:b K ε₁ ao with
  |no=>rw[YY] at ob;exact ob.elim
  |dw cz aE=>
   rw[YY] at p er
   induction fl<;>first|exact p.elim|skip
   refine bQ p λcI g3 kA vR=>?_;clear p;have g3:=g2.tr YX cj eh g3;exact⟨k',jA k',j+1,cz,aE,cI,er,kA,vR,(go g3).1,(go g3).2,jo g3⟩
  |cont cz aE=>
   rw[YY] at p er
   induction fl<;>first|exact p.elim|skip
   refine bQ p λcI g3 kA vR=>?_;clear p;have g3:=g2.tr YX cj eh g3;exact⟨k',jA k',j+1,cz,aE,cI,er,kA,vR,(go g3).1,(go g3).2,jo g3⟩
  |brk cz aE=>
   rw[YY] at p er
   induction fl<;>first|exact p.elim|skip
   refine bQ p λcI g3 kA vR=>?_;clear p;have g3:=g2.tr YX cj eh g3;exact hR _ _ (by refine eV er ?_;exact(bS cI ((go g3).2) (kA.less sub) (vR.to (mh sub) λY Y Y e=>e)))
  |ret Ni aE=>
   rw[YY] at p er
   induction fl<;>first|exact p.elim|skip
   refine bQ p λcI g3 kA q3=>?_;clear p;have g3:=g2.tr YX cj eh g3;exact hR _ _ (by refine eV er ?_;exact(bS cI ((go g3).2) (kA.less sub) (VR.mono (mh sub) _ q3)))
end
noncomputable def Jh(T:String):Bool:=["enumerate","zip","dict_itemiterator","dict_reverseitemiterator","odict_iterator","itertools.zip_longest","itertools.pairwise"].contains T
section
variable{X:Cx}{n:Nat}{nm:Nm}{A:aM}{F N fp:List ag}{M aK az ρ₀:List Lc}{s s' ru aw s₀:aj}{v w x:V}{u u':aa}{B ao μ₁:Mm}{env:PySem.Env}{E eR:Env}{G:Gt}{h h':ay}{Z Z':List ag}{prog:Program}{wd:aY}{acW:aa->aj->Prop}{target:PySem.Expr}
theorem CM{r:ag}{o:Obj}{T:String}{w:aa}{Q:Unit->aj->Prop}(ho:s.heap.get? r=some o)(hc:o.cls=.type T)(hT:Jh T=false)(hQ:Q () s):
  wpAny (model prog wd) A (letOwnedTupleGo target (.ref r) w) Q acW s:=by
 have pass:∀a:ag,wpAny (model prog wd) A (do
   let o←load r
   match o.cls,o.data with
   |.type n,.fields vs=>
    if ["enumerate","zip","dict_itemiterator","dict_reverseitemiterator","odict_iterator","itertools.zip_longest","itertools.pairwise"].contains n&&vs[0]? ==some (rawInt a) then
     rule "for.unpacks-the-owned-tuple"
     updateField r 0 .none
   |_,_=>pure ()) Q acW s:=λa=>by
  refine ax (wpAny_load ho ?_);refine ah hc ?_;have hT: ["enumerate","zip","dict_itemiterator","dict_reverseitemiterator","odict_iterator","itertools.zip_longest","itertools.pairwise"].contains T=false:=hT
  cases o.data<;>first|exact aX hQ|(simp only[hT,Bool.false_and,zm,if_false];exact aX hQ)
 cases target<;>first|exact aX hQ|(cases w<;>first|exact aX hQ|exact pass _)
theorem AX.one{it:ag}{J:Nat->ay->Prop}(self:∀(s:aj)(Q:aa->aj->Prop)(acW:aa->aj->Prop),J 0 s.heap->Q (.ref it) s->wpAny (model X.prog X.w) A (pyIter (.ref it)) Q acW s)(xx:∀h h',J 0 h->All h h'->J 0 h')(cls:∀k h,J k h->∃o T,h.get? it=some o/\o.cls=.type T/\Jh T=false)
  (Gh:∀k h h',J (k+1) h->(∀o,h.get? it=some o->h'.get? it=some o)->J (k+1) h')
  (item:∀k y(B:Mm) N M(s:aj)(Q:Option aa->aj->Prop),drawn v k B=.ok y->J k s.heap->R0 X B.bk ([it] ++N) M s.heap->VR X s.heap (([it] ++N)++foot M) M x u->
   (∀w h' tk,J (k+1) h'->oa it s.heap h'->VR X h' (([it] ++N)++foot M) M y w->Q (some w) {s with heap:=h',toks:=tk})->wpAny (model X.prog X.w) A (pyNext (.ref it)) Q E0 s)
  (fin:∀k(B:Mm) N M(s:aj)(Q:Option aa->aj->Prop),drawn v k B=.fin->J k s.heap->R0 X B.bk ([it] ++N) M s.heap->VR X s.heap (([it] ++N)++foot M) M x u->
   (∀h' tk,oa it s.heap h'->Q none {s with heap:=h',toks:=tk})->wpAny (model X.prog X.w) A (pyNext (.ref it)) Q E0 s):AX X A target v x u (.ref it) [it] J where
 self:=self
 xx:=xx
 Gh:=λk h h' j a=>Gh k h h' j (a it (aV.mpr rfl))
 item:=λk y B N M s Q e j rd q hq=>item k y B N M s _ e j rd q λw h' tk j' ke qw=>by
  refine bJ (cls _ _ j') λo T h1 h2 h3=>?_;exact aQ w rfl (CM (s:={s with heap:=h',toks:=tk}) h1 h2 h3 (hq w _ j' (λb o m e=>ke b o (λq=>m (q▸aV.mpr rfl)) e) (λb m=>⟨o,by refine ah (aV.mp m) ?_;exact h1⟩) rfl rfl qw))
 fin:=λk B N M s Q e j rd q hq=>fin k B N M s _ e j rd q λh' tk ke=>hq _ (λb o m e=>ke b o (λq=>m (q▸aV.mpr rfl)) e) rfl rfl
theorem ED{it:ag}(ke:oa it h h'):eK (([it] ++N)++foot M) M h (([it] ++N)++foot M) M h':=
 ⟨λb o m e=>ke b o (λq=>m (q▸aW)) e,λY m q=>absurd m q,λY Y e=>e⟩
theorem vW{o:OV}{y:V}(e:xj o=.ok y):o=.ok y:=by induction o with|no=>exact RD.noConfusion e|ok a=>refine iRD e ?_;rfl
theorem rA{o:OV}(e:xj o=.fin):o=.no:=by induction o with|no=>rfl|ok a=>exact RD.noConfusion e
theorem sd{l:V}{us:Array aa}{k:Nat}(q:VL X h Z M l us.toList)(e:eW l k=.no):us[k]? =none:=by
 refine gu (uo k us.toList.length) (λhk=>?_) λhk=>?_
 ·refine bc (xp q hk) λx hx=>?_;exact Hd (e.symm.trans hx)
 ·replace hk:=d6▸hk;exact Array.getElem?_eq_none hk
theorem se{l y:V}{us:Array aa}{k:Nat}(q:VL X h Z M l us.toList)(e:eW l k=.ok y):∃w,us[k]? =some w/\VR X h Z M y w:=by
 refine aL (rg q e) λw e1 e2=>?_;exact⟨w,by simpa using e1,e2⟩
noncomputable def Qj:V->Bool|.lst _=>true|.loc _=>true|_=>false
theorem sj{k:Nat}(hv:Qj v=true):(∀y,drawn v k B=.ok y->∃l,dY v B=.ok l/\eW l k=.ok y)/\(drawn v k B=.fin->(∃l,dY v B=.ok l/\eW l k=.no)∨∃i,k=0/\v=.loc i/\bk B i=.ok (.dict .nil)):=by
 induction v using V.casesOn with
 |lst l=>exact⟨λy e=>(aQ l rfl (vW e)),λe=>.inl (aQ l rfl (rA e))⟩
 |loc i=>
  show(∀y,Q5 (bk B i) k=.ok y->∃l,dF (bk B i)=.ok l/\_)/\(Q5 (bk B i) k=.fin->(∃l,dF (bk B i)=.ok l/\_)∨_);refine mOO (bk B i) (λhs=>?_) (λo hs=>?_)
  ·exact⟨λy e=>(absurd e nD),λe=>(absurd e nG)⟩
  ·induction o with
   |list l=>exact⟨λy e=>(aQ l rfl (vW e)),λe=>.inl (aQ l rfl (rA e))⟩
   |du l=>exact⟨λy e=>(aQ l rfl (vW e)),λe=>.inl (aQ l rfl (rA e))⟩
   |inst c l=>exact⟨λy e=>(absurd e nD),λe=>(absurd e nG)⟩
   |gone=>exact⟨λy e=>(absurd e nD),λe=>(absurd e nG)⟩
   |dict l=>
    induction k using dM with
    |succ k=>exact⟨λy e=>(absurd e nD),λe=>(absurd e nG)⟩
    |zero=>induction l using V.casesOn<;>first|exact⟨λy e=>(RD.noConfusion e),λe=>.inr (bS i rfl rfl hs)⟩|exact⟨λy e=>(absurd e nD),λe=>(absurd e nG)⟩
 |_=>(injection hv)
theorem list_dict{K:Type}[DecidableEq K]{knd:KeyKind prog wd K}{a:ag}{vs:Array aa}{gh:List (K×aa)}(hl:h.IsList a vs)(d:h.DictOf knd a gh):False:=by
 refine bQ hl λo ho hc Y=>?_;clear hl;obtain⟨o',es,ep,ho',hx,_⟩:=d;replace ho':=ho▸ho';(injection ho' with g1;subst g1);have hx:=hx.1;replace hx:=hc▸hx;exact absurd hx (by decide)
theorem no_dict{i:Nat}{l:V}(rd:Rd X N M s B)(hs:bk B i=.ok (.dict l))(q:Vr X N M s (.loc i) u){a:ag}{vs:Array aa}(hu:u=.ref a)(hl:s.heap.IsList a vs):False:=by
 subst hu;refine aL (kK rd hs) λp hp ho=>?_;refine bQ q λp' kf Y hu=>?_;clear q;replace kf:=hp▸kf;injection kf with g1;subst g1
 obtain⟨a',rfl,_,ho⟩:=ho;have hu:Value.ref a=.ref a':=hu;injection hu with g1;subst g1;refine gu ho (λYZ=>?_) λYZ=>?_
 ·obtain⟨gh,d,_⟩:=YZ;exact list_dict hl d
 ·obtain⟨gh,d,_⟩:=YZ;exact list_dict hl d
theorem A3(hA:A.handled=none)(hv:Qj v=true){a it:ag}:AX X A target v v (.ref a) (.ref it) [it] (λk h=>h.IsListIter it a k/\(k=0->∃vs,h.IsList a vs)):=
 AX.one (λs Q acW j hq=>wpAny_pyIter_listiter j.1 hq) (λh h' ⟨⟨o,h1,h2⟩,j⟩ k=>⟨(aQ o (k _ _ h1) h2),λe=>let ⟨vs,o,h1,h2⟩:=j e;(bA vs o (k _ _ h1) h2)⟩) (λk h ⟨⟨o,h1,h2,_⟩,_⟩=>⟨o,_,h1,h2,by decide⟩) (λk h h' ⟨⟨o,h1,h2⟩,_⟩ a=>⟨(aQ o (a o h1) h2),λe=>by cases e⟩)
  (λk y B N M s Q e ⟨j,_⟩ rd q hq=>by
   refine eQ λkk=>?_;refine aL ((sj hv).1 y e) λl e1 e2=>?_;refine bJ (dj rd e1 q) λa' vs hu hl vl=>?_;injection hu with g1;subst g1
   refine aL (se vl e2) λw h1 h2=>?_;refine kk ?_;exact wpAny_pyNext_list_item j hl h1 λh' j' sb=>hq w h' s.toks ⟨j',λe=>by cases e⟩ sb.extBut (VR.mono (ED sb.extBut) _ h2))
  (λk B N M s Q e ⟨j,j0⟩ rd q hq=>by
   refine gu ((sj hv).2 e) (λx8=>?_) λx8=>?_
   ·obtain⟨l,e1,e2⟩:=x8;refine bJ (dj rd e1 q) λa' vs hu hl vl=>?_;injection hu with g1;subst g1;exact wpAny_pyNext_list_end hA j hl (sd vl e2) λh' ke=>hq h' s.toks ke
   ·obtain⟨i,rfl,rfl,hs⟩:=x8;refine bc (j0 rfl) λvs hl=>?_;exact(no_dict rd hs q rfl hl).elim)
theorem Nj{l:V}(hA:A.handled=none){a it:ag}:AX X A target (.tup l) (.tup l) (.ref a) (.ref it) [it] (λk h=>IsTupIter h it a k):=
 AX.one (λs Q acW j hq=>wpAny_pyIter_tupleiter (show s.heap.IsTupleIter it a 0 from j) hq) (λh h' ⟨o,h1,h2⟩ k=>(aQ o (k _ _ h1) h2)) (λk h ⟨o,h1,h2,_⟩=>⟨o,_,h1,h2,by decide⟩) (λk h h' ⟨o,h1,h2⟩ a=>(aQ o (a o h1) h2))
  (λk y B N M s Q e j rd q hq=>by
   refine iZ q λa' vs hu Y hl vl=>?_;clear q;injection hu with g1;subst g1
   refine aL (se vl (vW e)) λw h1 h2=>?_;exact next_tuple_item j hl h1 λh' j' sb=>hq w h' s.toks j' sb.extBut (VR.mono (ED sb.extBut) _ h2))
  (λk B N M s Q e j rd q hq=>by
   refine iZ q λa' vs hu Y hl vl=>?_;clear q;injection hu with g1;subst g1
   exact next_tuple_end hA j hl (sd vl (rA e)) λh' ke=>hq h' s.toks ke)
theorem Ji{t:S}:Jh (strIterType (mkStr t))=false:=by unfold strIterType;split<;>decide
theorem Jj{y:Bool}{c:List Nat}(e:Hc y c=.no):c=[] :=by induction c using bE with|nil=>rfl|cons a r=>exact OV.noConfusion e
theorem EE{t:S}{y:Bool}{Qk:Tok}(hA:A.handled=none){it:ag}(hv:∀k B,drawn v k B=xj (Hc y (mB t k))):AX X A target v v (.str (mkStr t) Qk) (.ref it) [it] (λk h=>h.IsStrIter it (strIterType (mkStr t)) (mkStr t) Qk k):=
 AX.one (λs Q acW j hq=>by
   cases ha:(mkStr t).cps.all (·<128)
   ·replace j:=(show strIterType (mkStr t)="str_iterator" by unfold strIterType;rw[ha];rfl)▸j;exact wpAny_pyIter_striter_wide j hq
   ·replace j:=(show strIterType (mkStr t)="str_ascii_iterator" by unfold strIterType;rw[ha];rfl)▸j;exact wpAny_pyIter_striter_ascii j hq) (λh h' ⟨o,h1,h2⟩ k=>(aQ o (k _ _ h1) h2)) (λk h ⟨o,h1,h2,_⟩=>(dy o _ h1 h2 Ji)) (λk h h' ⟨o,h1,h2⟩ a=>(aQ o (a o h1) h2))
  (λk z B N M s Q e j rd q hq=>by
   rw[hv] at e;refine a6 (Ik (vW e)) λc r h1 T6=>?_;subst T6
   have hc:(mkStr t).cps[k]? =some c:=by
    show t.toArray[k]? =_;rw[fh] at h1;refine kY (t[k]?) (λh2=>?_) (λd h2=>?_)
    ·replace h1:=h2▸h1;(injection h1)
    ·replace h1:=h2▸h1;refine HN h1 ?_;simpa using h2
   have vr:∀{h':ay}{tk:Tok},VR X h' (([it] ++N)++foot M) M (DA y [c]) (.str ⟨#[c]⟩ tk):=λ{h' tk}=>by induction y<;>exact⟨tk,rfl⟩
   cases ha:(mkStr t).cps.all (·<128)
   ·rw[show strIterType (mkStr t)="str_iterator" by unfold strIterType;refine ah ha ?_;rfl] at j hq;exact wpAny_pyNext_wide_item j hc λh' j' sb=>hq _ h' _ j' sb.extBut vr
   ·rw[show strIterType (mkStr t)="str_ascii_iterator" by unfold strIterType;refine ah ha ?_;rfl] at j hq;exact wpAny_pyNext_ascii_item j hc λh' j' sb=>hq _ h' _ j' sb.extBut vr)
  (λk B N M s Q e j rd q hq=>by
   rw[hv] at e
   have hc:(mkStr t).cps[k]? =none:=by
    show t.toArray[k]? =_;have h1:=Jj (rA e);rw[fh] at h1;refine kY (t[k]?) (λh2=>?_) (λd h2=>?_)
    ·simpa using h2
    ·replace h1:=h2▸h1;(injection h1)
   cases ha:(mkStr t).cps.all (·<128)
   ·replace j:=(show strIterType (mkStr t)="str_iterator" by unfold strIterType;rw[ha];rfl)▸j;exact wpAny_pyNext_wide_end hA j hc λh' ke=>hq h' s.toks ke
   ·replace j:=(show strIterType (mkStr t)="str_ascii_iterator" by unfold strIterType;rw[ha];rfl)▸j;exact wpAny_pyNext_ascii_end hA j hc λh' ke=>hq h' s.toks ke)
theorem Jk{a b d:Int}{k:Nat}{y:V}(e:WI a b d k=.ok y):d=1/\a+k<b/\y=.int (a+k):=by
 unfold WI at e;refine cBool (rX d 1) (λh1=>?_) (λh1=>?_)
 ·replace e:=h1▸e;exact absurd e nD
 ·replace e:=h1▸e;rw[iG,decide_eq_true_iff] at h1;have e:HC a b (a+k)=.ok y:=e;unfold HC at e;refine cBool (gI (a+k) b) (λh2=>?_) (λh2=>?_)
  ·replace e:=h2▸e;exact RD.noConfusion e
  ·replace e:=h2▸e;rw[bj,decide_eq_true_iff] at h2;refine iRD e ?_;exact bL h1 h2 rfl
theorem EF{a b d:Int}{k:Nat}(e:WI a b d k=.fin):d=1/\b≤a+k:=by
 unfold WI at e;refine cBool (rX d 1) (λh1=>?_) (λh1=>?_)
 ·replace e:=h1▸e;exact absurd e nG
 ·replace e:=h1▸e;rw[iG,decide_eq_true_iff] at h1;have e:HC a b (a+k)=.fin:=e;unfold HC at e;refine cBool (gI (a+k) b) (λh2=>?_) (λh2=>?_);rotate_left
  ·replace e:=h2▸e;exact RD.noConfusion e
  ·rw[bj,decide_eq_false_iff_not] at h2;exact⟨h1,by exact gS.mp (by assumption)⟩
theorem Nl{a b d:Int}(hA:A.handled=none){it:ag}:AX X A target (.om a b d) (.om a b d) u (.ref it) [it] (λk h=>IsRangeIter h it (a+k) (n9 a b 1 - k) 1):=
 AX.one (λs Q acW j hq=>wpAny_pyIter_rangeiter j hq) (λh h' h1 k=>k _ _ h1) (λk h h1=>⟨_,_,h1,rfl,by decide⟩) (λk h h' h1 a=>a _ h1)
  (λk y B N M s Q e j rd q hq=>by
   refine c_ (Jk e) λCI h1 mM=>?_;refine ah CI ?_;subst mM;refine wpAny_pyNext_range_item j (by rw[rangeSize_one,if_pos (by omega)];omega) λh' j' sb=>hq _ h' _ ?_ sb.extBut ⟨_,rfl⟩;refine ah (show a+((k+1:Nat):Int)=a+k+1 by omega) (ah (show n9 a b 1 - ((k+1:Nat):Int)=n9 a b 1 - k - 1 by lia) ?_);exact j')
  (λk B N M s Q e j rd q hq=>by
   refine aD (EF e) λCJ h1=>?_;refine ah CJ ?_;refine wpAny_pyNext_range_end hA j ?_ λh' ke=>hq h' s.toks ke;rw[rangeSize_one];split<;>lia)
theorem Jl{K:Type}[DecidableEq K]{knd:KeyKind X.prog X.w K}{i:Nat}(hA:A.handled=none){a it:ag}{ep:Nat}:AX X A target (.loc i) (.loc i) (.ref a) (.ref it) [it] (λk h=>k=0/\h.IsKeyIter it a 0 0 ep/\h.DictAt knd a [] ep):=
 AX.one (λs Q acW j hq=>wpAny_pyIter_keyiter j.2.1 hq) (λh h' ⟨e,⟨o,h1,h2⟩,h3⟩ k=>(bL e (aQ o (k _ _ h1) h2) (h3.keep k))) (λk h ⟨_,⟨o,h1,h2,_⟩,_⟩=>⟨o,_,h1,h2,by decide⟩) (λk h h' ⟨e,_⟩=>by exact gr e)
  (λk y B N M s Q e ⟨hk,j,jd⟩ rd q hq=>by
   refine aL ((sj (v:=.loc i) rfl).1 y e) λl e1 e2=>?_;refine bJ (dj rd e1 q) λa' vs hu hl vl=>?_;injection hu with g1;subst g1
   exact(list_dict hl jd.dictOf).elim)
  (λk B N M s Q e ⟨hk,j,jd⟩ rd q hq=>by
   refine ah hk ?_;exact wpAny_pyNext_dict_end hA j jd rfl λh' ke=>hq h' s.toks ke)
noncomputable def Y0(X:Cx)(A:aM)(target:PySem.Expr)(v:V)(u:aa)(s:aj)(it:aa)(s₂:aj):Prop:=
 ∃i J,AX X A target v v u it [i] J/\All s.heap s₂.heap/\s.heap.get? i=none/\(∃o,s₂.heap.get? i=some o)/\J 0 s₂.heap/\s₂.gens=s.gens/\s₂.os=s.os
theorem CN(hA:A.handled=none)(rd:Rd X N M s B)(q:Vr X N M s v u)(hw:drawn v 0 B≠ .no):wpAny (model X.prog X.w) A (pyIter u) (Y0 X A target v u s) E0 s:=by
 induction v using V.casesOn with
 |str t=>refine bc q λtk CB=>?_;clear q;subst CB;exact wpAny_pyIter_strU (Ca _ _ (EE hA λY Y=>rfl) (All.push _) (bG _) ⟨_,bX _ rfl⟩ (bS _ (bX _ rfl) rfl rfl) rfl rfl)
 |ak t=>refine bc q λtk CC=>?_;clear q;subst CC;exact wpAny_pyIter_strU (Ca _ _ (EE hA λY Y=>rfl) (All.push _) (bG _) ⟨_,bX _ rfl⟩ (bS _ (bX _ rfl) rfl rfl) rfl rfl)
 |tup l=>refine iZ q λa vs T7 Y ht vl=>?_;clear q;subst T7;exact iter_tuple ht (Ca _ _ (Nj hA) (All.push _) (bG _) ⟨_,bX _ rfl⟩ (bS _ (bX _ rfl) rfl rfl) rfl rfl)
 |lst l=>refine iZ q λa vs T8 Y ht vl=>?_;clear q;subst T8;exact uF ht (Ca _ _ (A3 hA rfl) (All.push _) (bG _) ⟨_,bX _ rfl⟩ ⟨(bS _ (bX _ rfl) rfl rfl),λY=>⟨_,ht.push _⟩⟩ rfl rfl)
 |om a b d=>
  refine Mj q λr t1 t2 t3 T9 Y hr m1 m2=>?_;clear q;refine ah T9 ?_
  have hd:d=1:=by
   refine W6 (drawn (.om a b d) 0 B) (λe=>?_) (λe=>?_) (λy e=>?_)
   ·exact absurd e hw
   ·exact(EF e).1
   ·exact(Jk e).1
  subst hd;refine wpAny_pyIter_range hr (small_one (mJ m1).1 (mJ m1).2 (mJ m2).1 (mJ m2).2) (Ca _ _ (Nl hA) (All.push _) (bG _) ⟨_,bX _ rfl⟩ ?_ rfl rfl);show IsRangeIter _ _ (a+((0:Nat):Int)) (_ - ((0:Nat):Int)) 1;refine ah (show a+((0:Nat):Int)=a by exact tX _) (ah (show n9 a b 1 - ((0:Nat):Int)=n9 a b 1 by exact tX _) ?_);exact bX _ rfl
 |loc i=>
  refine cOO (bk B i) (λhs=>?_) (λo hs=>?_)
  ·exact absurd (show Q5 (bk B i) 0=.no by refine ah hs ?_;rfl) hw
  ·have seq:∀{l:V},dF (bk B i)=.ok l->wpAny (model X.prog X.w) A (pyIter u) (Y0 X A target (.loc i) u s) E0 s:=by
    intro l e;obtain⟨a,vs,_,hu,ht,vl⟩:=oy rd e q;refine ah hu ?_;exact uF ht (Ca _ _ (A3 hA rfl) (All.push _) (bG _) ⟨_,bX _ rfl⟩ ⟨(bS _ (bX _ rfl) rfl rfl),λY=>⟨_,ht.push _⟩⟩ rfl rfl)
   induction o with
   |list l=>exact seq (l:=l) (by refine ah hs ?_;rfl)
   |du l=>exact seq (l:=l) (by refine ah hs ?_;rfl)
   |dict l=>
    have hl:l=.nil:=by
     have:drawn (.loc i) 0 B=drD l:=by show Q5 (bk B i) 0=_;refine ah hs ?_;rfl
     replace hw:=this▸hw
     induction l using V.casesOn<;>first|rfl|exact absurd rfl hw
    refine eQ λkk=>?_;subst hl;refine aL (kK rd hs) λp hp ho=>?_;refine bQ q λp' kf Y T'=>?_;refine kk ?_;clear q;refine ah T' ?_;replace kf:=hp▸kf;refine Af kf ?_;obtain⟨a,rfl,hm,ho⟩:=ho;refine gu ho (λV3=>?_) λV3=>?_
    ·obtain⟨gh,d,_,_,hl⟩:=V3
     have:gh=[] :=List.eq_nil_of_length_eq_zero hl;subst this;obtain⟨ep,da⟩:=d.dictAt;exact wpAny_pyIter_dict hm da (Ca _ _ (Jl (knd:=strKind X.prog X.w) (ep:=ep) hA) (All.push _) (bG _) ⟨_,bX _ rfl⟩ (bL rfl (bS _ (bX _ rfl) rfl rfl) (da.push _)) rfl rfl)
    ·obtain⟨gh,d,_,_,hl,qk⟩:=V3;exact absurd rfl qk
   |_=>exact absurd (show Q5 (bk B i) 0=.no by refine ah hs ?_;rfl) hw
 |G_ w=>exact q.elim
 |_=>exact absurd rfl hw
end
section
variable{X:Cx}{n:Nat}{nm:Nm}{A:aM}{F N fp:List ag}{M aK az ρ₀:List Lc}{s s' ru aw s₀:aj}{v w x:V}{u u':aa}{B ao μ₁:Mm}{env:PySem.Env}{E eR:Env}{G:Gt}{h h':ay}{Z Z':List ag}{prog:Program}{wd:aY}{acW:aa->aj->Prop}{target:PySem.Expr}
theorem yp{it:PySem.Expr}(h:fB it=true)(x:aa):foldedSetIterable it env x=pure x:=by
 cases it<;>first|rfl|exact absurd h nT
theorem Gw.none{I:List O}(g:Gw M s aK s')(rd:R0 X I N aK s'.heap){b:ag}(h:s'.heap.get? b=none):s.heap.get? b=none:=by
 refine kZ (s.heap.get? b) (λe=>?_) (λo e=>?_)
 ·rfl
 ·exfalso
  by_cases m:b∈foot M
  ·refine aL (fY.mp (HR g.pre m)) λp hp hb=>?_;refine bc (SR.alive rd.bk p hp b hb) λo' e'=>?_;replace e':=h▸e';(injection e')
  ·replace h:=(g.keep b o m e)▸h;(injection h)
theorem vX{t:Tg}{b:CS}{K:Kc}{k j:Nat}(o:qa (forL t v b K k j E B)):drawn v j B≠ .no:=λe=>by
 induction k using dM with
 |zero=>exact o
 |succ k=>
  have o:qa (@RD.rec (λY=>RS) RS.no (RS.dw E B) (λy=>q7 b K (t y E B) B (forL t v b K k (aZ j))) (drawn v j B)):=o;replace o:=e▸o;exact o
theorem T_{pos:Pos}{iter:PySem.Expr}{bd:List PySem.Stmt}{t:Tg}{a:C}{b:CS}(ha:Es X n nm iter a)(hp:fB iter=true)(ht:Tq X nm target t)(hb:Sq X n nm bd b):Ss X n nm (.For target iter bd [] pos) (xS t a b):=λK hK E B o=>by
 refine eQ λkk=>?_;refine bJ (ee o) λv μ₁ h1 o1 h2=>?_;refine aD (ha K hK E B v μ₁ h1 (yo hK hb _ _ _ _ o1)) λo0 g1=>?_;refine kk ?_;refine⟨o0,λenv A N M s hn rm f rd rn=>wpAny_For (Pe.go (H:=aa) (t:=eval iter env) f rd rn (g1 env A N M s hn rm f rd rn) λu az aw k1 cj fu q1=>?_) (yp hp)⟩;refine aA (CN (target:=target) rm.1 cj q1 (vX o1)) (λit s₂ pD=>?_) (λY Y e=>e.elim);refine Rb pD λi J acU ka hf hl hj hg ho=>?_;clear pD;have F4:∀b∈ [i],aw.heap.get? b=none:=λb m=>by refine ah (aV.mp m) ?_;exact hf
 refine Jg hK ht hb acU hn rm f rd (λb m=>Gw.none k1 cj (F4 b m)) rfl o1 (R0.add cj ka F4 λb m=>by refine ah (aV.mp m) ?_;exact hl) (Rn.add f fu ka F4) (VR.mono (oF ka F4) v q1) (k1.trans (Gw.all ka hg ho)).gs hj λfl s' p=>?_;refine ah (show xS t a b K E B=_ from h2) ?_;exact p
theorem EG{es:List PySem.Expr}{kd}{pos:Pos}(hA:A.handled=none){a e it:ag}(qk:e≠it):AX X A (.Tuple es kd pos) (.G_ w) w (.ref a) (.ref e) [e,it] (λk h=>(∃old,IsEnum h e it ((k:Nat):Int) old)/\h.IsListIter it a k) where
 self:=λs Q acW j hq=>uG j.1.choose_spec hq
 xx:=λh h' ⟨⟨old,he⟩,⟨o,h1,h2⟩⟩ k=>⟨⟨old,k _ _ he⟩,(aQ o (k _ _ h1) h2)⟩
 Gh:=λk h h' ⟨⟨old,he⟩,⟨o,h1,h2⟩⟩ a=>⟨⟨old,a e aW _ he⟩,(aQ o (a it (by simp) _ h1) h2)⟩
 item:=λk y B N M s Q e1 ⟨⟨old,he⟩,j⟩ rd q hq=>by
  have e1:VQ k (dY w B)=.ok y:=e1;refine Ml (dY w B) (λhl=>?_) (λl hl=>?_)
  ·replace e1:=hl▸e1;exact absurd e1 nD
  replace e1:=hl▸e1;have e1:HD k (eW l k)=.ok y:=e1;refine Ml (eW l k) (λhv=>?_) (λz hv=>?_)
  ·replace e1:=hv▸e1;exact RD.noConfusion e1
  replace e1:=hv▸e1;injection e1 with g1;subst g1
  refine bJ (dj rd hl q) λa' vs hu Ua vl=>?_
  cases hu
  refine aL (se vl hv) λw h1 h2=>?_;refine wpAny_pyNext_enum_item he j Ua h1 qk λjj eo abA ht hz acZ=>(aQ _ rfl (wpAny_letOwnedTupleGo_enum (s:={s with heap:=jj,toks:=s.toks+1}) eo λfJ AI sb=>?_));have hes:e<s.heap.objs.size:=iE he;have sb:jD e jj fJ:=sb
  have kk:∀b o,b∉ [e,it] ->s.heap.get? b=some o->fJ.get? b=some o:=λb o m x=>by
   rw[aR,aV,not_or] at m;exact sb.extBut b o m.1 (acZ b o m.1 m.2 x)
  have P:eK (([e,it] ++N)++foot M) M s.heap (([e,it] ++N)++foot M) M fJ:=⟨λb o m x=>kk b o (λq=>m (a0 _ (a0 _ q))) x,λY m q=>absurd m q,λY Y x=>x⟩;have Ub:=abA.extBut sb.extBut (jC qk);refine hq _ {s with heap:=fJ,toks:=s.toks+1} ⟨⟨_,by refine ah (show(((k+1:Nat)):Int)=(k:Int)+1 by rfl) ?_;exact AI⟩,Ub⟩ kk (λb m=>?_) rfl rfl ?_
  ·rcases aR.mp m with rfl|m
   ·exact⟨_,AI⟩
   ·refine ah (aV.mp m) ?_;refine aL Ub λo h1 Y=>?_;clear Ub;exact⟨o,h1⟩
  ·refine(mH s.heap.objs.size (#[.int k s.toks,w]) rfl (R0.out rd (bG _)) ⟨_,sb.extBut _ _ (uj hes) ht,rfl,_,rfl⟩ ?_);exact⟨_,_,rfl,⟨_,rfl⟩,_,_,rfl,VR.mono P z h2,rfl⟩
 fin:=λk B N M s Q e1 ⟨⟨old,he⟩,j⟩ rd q hq=>by
  have e1:VQ k (dY w B)=.fin:=e1;refine Ml (dY w B) (λhl=>?_) (λl hl=>?_)
  ·replace e1:=hl▸e1;exact absurd e1 nG
  replace e1:=hl▸e1;have e1:HD k (eW l k)=.fin:=e1;refine Ml (eW l k) (λhv=>?_) (λz hv=>?_);rotate_left
  ·replace e1:=hv▸e1;exact RD.noConfusion e1
  refine bJ (dj rd hl q) λa' vs hu Ua vl=>?_;injection hu with g1;subst g1
  exact wpAny_pyNext_enum_end hA he j Ua (sd vl hv) λh' ke=>hq _ (λb o m x=>ke b o (λq=>m (by simp[q])) x) rfl rfl
theorem Nn(g:k9 X G){id:Str}{p pos cp:Pos}{e:PySem.Expr}{bd:List PySem.Stmt}{t:Tg}{l:C}{b:CS}{ts:List PySem.Expr}{kd}{tp:Pos}(hf:Gv X nm (.Name id p) (.blt 2))(hl:El X n nm [e] l)(hp:fK [e] =true)(ht:Tq X nm (.Tuple ts kd tp) t)(hb:Sq X n nm bd b):Ss X n nm (.For (.Tuple ts kd tp) (.Call (.Name id p) [e] [] cp) bd [] pos) (xS t (jE 2 l) b):=λK hK E B o=>by
 refine eQ λkk=>?_;refine bJ (ee o) λv μ₁ h1 o1 h2=>?_;refine a6 (a7 h1) λlv aE h3 h4=>?_;refine aL (D_ (show j6 Hx lv aE=.ok v μ₁ from h4)) λw vC h5=>?_;subst vC;refine kk ?_
 cases h5
 refine aD (hl K hK E B _ _ h3 (yo hK hb _ _ _ _ o1)) λo0 gl=>?_;refine⟨o0,λenv A N M s hn rm f rd rn=>wpAny_For (jM (hf env A N M s _ hn f rd.base rd.low λu q=>?_)) (λY=>rfl)⟩
 cases q
 refine fV hp (yf _) (aA (gl env A N M s cp hn rm f rd rn) (λus aw ⟨az,k1,cj,q1⟩=>⟨cj.base,?_⟩) λY Y e=>e);have fu:=rn.gw f rd k1;refine bJ q1 λu us' mP qw VX=>?_;clear q1;subst mP
 cases VX
 have Jm:∃l,dY w μ₁=.ok l:=by
  have:=vX o1;refine mOV (dY w μ₁) (λhl=>?_) (λl hl=>?_);rotate_left
  ·exact⟨l,rfl⟩
  ·exact absurd (show VQ 0 (dY w μ₁)=.no by refine ah hl ?_;rfl) this
 refine eQ λkk=>?_;refine bc Jm λll hll=>?_;clear Jm;refine bJ (dj cj hll qw) λa vs p9 Ua vl=>?_;subst p9;refine kk ?_;refine call_enumerate_list Ua λfJ he hit hz ka=>uG he ?_
 have F4:∀b∈ [aw.heap.objs.size+1,aw.heap.objs.size],aw.heap.get? b=none:=λb m=>by
  rcases aR.mp m with rfl|m
  ·refine kZ (aw.heap.get? (aw.heap.objs.size+1)) (λe=>?_) (λo e=>?_)
   ·rfl
   ·exact absurd (iE e) (iB.mpr (fZ _))
  ·refine ah (aV.mp m) ?_;exact bG _
 have yq:∀b∈ [aw.heap.objs.size+1,aw.heap.objs.size],∃o,fJ.get? b=some o:=λb m=>by
  rcases aR.mp m with rfl|m
  ·exact⟨_,he⟩
  ·refine ah (aV.mp m) ?_;refine aL hit λo ho Y=>?_;clear hit;exact⟨o,ho⟩
 refine Jg (s:={aw with heap:=fJ}) hK ht hb (EG rm.1 (Nat.succ_ne_self _)) hn rm f rd (λb m=>Gw.none k1 cj (F4 b m)) rfl o1 (R0.add cj ka F4 yq) (Rn.add f fu ka F4) (VR.mono (oF ka F4) w qw) (k1.trans (Gw.all (s':={aw with heap:=fJ}) ka)).gs ⟨⟨_,he⟩,hit⟩ λfl s' p=>?_;refine ah (show xS t (jE 2 l) b K E B=_ from h2) ?_;exact p
end
noncomputable def kj(nm:Nm)(l:Nm):Nm:=l.map λ(n,k)=>if (k== .free&&nm.lookup n==some .cell) then(n,.cell) else(n,k)
structure oO(nm:Nm)(sc:Scope)(ts:List Nat):Prop where
 kind:sc.kind=.function
 CO:∀p∈sc.names,p.2≠ .cell
 same:∀p∈sc.names,p.2=.local->sc.names.lookup p.1=some .local
 free:∀p∈sc.names,p.2=.free->nm.lookup p.1=some .cell
 loc:∀p∈sc.names,p.2=.local->bz p.1=true->idOf p.1∈ts
section
variable{X:Cx}{n:Nat}{nm:Nm}{A:aM}{F N fp:List ag}{M aK az ρ₀:List Lc}{s s' ru aw s₀:aj}{v w x:V}{u u' it:aa}{B ao μ₁:Mm}{env:PySem.Env}{E eR:Env}{G:Gt}{h h':ay}{Z Z':List ag}{prog:Program}{wd:aY}{acW:aa->aj->Prop}{target:PySem.Expr}
theorem Uc{sc:Scope}(hc:∀p∈sc.names,p.2=.free->∃c,env.cells.lookup p.1=some c):∃cl,closureFor sc env=pure cl/\(∀x c,(x,c)∈cl->env.cells.lookup x=some c)/\(∀p∈sc.names,p.2=.free->∃c,(p.1,c)∈cl):=by
 have key:∀(l:Nm)(acc:List (Str×ag)),(∀p∈l,p.2=.free->∃c,env.cells.lookup p.1=some c)->(∀x c,(x,c)∈acc->env.cells.lookup x=some c)->
   ∃cl,(forIn l acc λ(x:Str×NameKind) cs=>(if (x.2== .free)=true then(do let c←cellOf env x.1;pure (nJ ((x.1,c)::cs))) else pure (nJ cs):Sem (ForInStep (List (Str×ag)))))=pure cl/\(∀x c,(x,c)∈cl->env.cells.lookup x=some c)/\(∀p∈l,p.2=.free->∃c,(p.1,c)∈cl)/\∀q∈acc,q∈cl:=by
  intro l
  induction l with
  |nil=>intro acc _ ha;exact vm acc rfl ha (λp hp=>nomatch hp) (λq hq=>hq)
  |cons p l ih=>
   intro acc hl ha;rw[nX]
   by_cases hk:p.2=.free
   ·refine bc (hl p aW hk) λc hc=>?_
    obtain⟨cl,h1,h2,h3,h4⟩:=ih ((p.1,c)::acc) (λq hq=>hl q (aP _ hq)) (λx d hm=>by
     rcases aR.mp hm with e|e
     ·(injection e with g1 g2;subst g1;subst g2);exact hc
     ·exact ha x d e)
    refine(vm cl ?_ h2 (λq hq hf=>?_) (λq hq=>h4 q (aP _ hq)))
    ·refine ah (if_pos (by rw[hk];rfl)) ?_;unfold cellOf;refine ah hc ?_;exact h1
    ·rcases aR.mp hq with rfl|hq
     ·exact⟨c,h4 _ aW⟩
     ·exact h3 q hq hf
   ·obtain⟨cl,h1,h2,h3,h4⟩:=ih acc (λq hq=>hl q (aP _ hq)) ha;refine(vm cl ?_ h2 (λq hq hf=>?_) h4)
    ·refine ah (if_neg (by simpa using hk)) ?_;exact h1
    ·rcases aR.mp hq with rfl|hq
     ·exact absurd hf hk
     ·exact h3 q hq hf
 obtain⟨cl,h1,h2,h3,_⟩:=key sc.names [] hc (λY Y m=>nomatch m);refine(bS cl ?_ h2 h3);refine Eq.trans ?_ (congrArg (λz:Sem (List (Str×ag))=>z >>=λc=>pure c) h1)
 rfl
theorem xy{y:Str}{k:NameKind}:∀{l:Nm},(kj nm l).lookup y=some k->∃p∈l,p.1=y/\k=if (p.2== .free&&nm.lookup y==some .cell)=true then .cell else p.2:=by
 intro zr
 induction zr with
 |nil=>
  exact @λe=>by(injection e)
 |cons zc l bN=>
  obtain⟨z,j⟩:=zc
  exact @λe=>by
   have e:List.lookup y ((if (j== .free&&nm.lookup z==some .cell)=true then(z,.cell) else(z,j))::kj nm l)=some k:=e;have h1:(if (j== .free&&nm.lookup z==some .cell)=true then(z,oh) else(z,j))=(z,if (j== .free&&nm.lookup z==some .cell)=true then .cell else j):=by split<;>rfl
   rw[h1,jR] at e;refine cBool (y==z) (λhb=>?_) (λhb=>?_);rotate_left
   ·replace e:=hb▸e
    have:=eq_of_beq hb;subst this;exact bS _ aW rfl ((iS e).symm)
   ·replace e:=hb▸e;refine aL (bN e) λp hp q=>?_;exact aQ p (aP _ hp) q
theorem la{sc:Scope}(hf:env.scope.kind=.function):(relabel sc env).names=kj env.scope.names sc.names:=by
 show sc.names.map _=sc.names.map _;refine List.map_congr_left λp Y=>?_;obtain⟨y,k⟩:=p;show(if (k== .free&&env.scope.kind== .function&&env.kindOf y==some .cell)=true then _ else _)=_;refine ah hf ?_;show _=if (k==NameKind.free&&List.lookup y env.scope.names==some oh)=true then(y,oh) else(y,k)
 rw[show(zY==zY)=true from rfl,qo]
 rfl
theorem vY{ts:List Nat}{y:Nat}:∀{e:Env},a8 (jn ts e) y=.ok v->a8 e y=.ok v/\y∉ts:=by
 intro zr
 induction zr with
 |nil=>
  exact @λh=>by exact absurd h nO
 |cons z w r bN=>
  exact @λh=>by
   have h:a8 (@Bool.rec (λY=>Env) (.cons z w (jn ts r)) (jn ts r) (z5 z ts)) y=.ok v:=h
   have go:∀(h:a8 (jn ts r) y=.ok v)(hz:aC z y=false),a8 (.cons z w r) y=.ok v/\y∉ts:=λh hz=>by
    refine aD (bN h) λh1 h2=>?_;exact⟨by show @Bool.rec (λY=>OV) (a8 r y) (OV.ok w) (aC z y)=_;refine ah hz ?_;exact h1,h2⟩
   refine cBool (z5 z ts) (λhc=>?_) (λhc=>?_);rotate_left
   ·replace h:=hc▸h;refine aD (bN h) λh1 h2=>?_;refine go h ?_;refine cW (aC z y) (λhz=>?_) (λhz=>?_)
    ·rfl
    ·rw[eJ hz,kM,decide_eq_true_iff] at hc;exact absurd hc h2
   ·replace h:=hc▸h;have h: @Bool.rec (λY=>OV) (a8 (jn ts r) y) (OV.ok w) (aC z y)=.ok v:=h;refine cBool (aC z y) (λhz=>?_) (λhz=>?_);rotate_left
    ·replace h:=hz▸h;refine rOV h ?_
     have:=eJ hz;subst this;rw[kM,decide_eq_false_iff_not] at hc;exact⟨by show @Bool.rec (λY=>OV) (a8 r z) (OV.ok v) (aC z z)=_;exact ah hz rfl,hc⟩
    ·replace h:=hz▸h;exact go h hz
theorem Np{sc:Scope}{ts:List Nat}{cl:List (Str×ag)}{C:ag}(hn:env.scope.names=nm)(ok:oO nm sc ts)(f:Fe N env)(BV:∀x c,(x,c)∈cl->env.cells.lookup x=some c)(m6:∀p∈sc.names,p.2=.free->∃c,(p.1,c)∈cl)
  (rn:Rn X env E N M h) (hC:∃m,h.Ns C m):Rn X (compEnvC sc cl C env) (jn ts E) N M h:=by
 have kd:∀{y k},(compEnvC sc cl C env).kindOf y=some k->∃p∈sc.names,p.1=y/\k=if (p.2== .free&&nm.lookup y==some .cell)=true then .cell else p.2:=λ{y k} e=>by
  have e:(relabel sc env).names.lookup y=some k:=e;replace e:=hn▸((la f.fn)▸e);exact xy e
 refine bc hC λm hm=>?_;clear hC;refine⟨(aQ m hm (λy v hy hl hk=>?_)),λy c hc=>rn.cl y c (BV y c (f_ hc)),λy v hy hl hk=>?_⟩
 ·refine eQ λkk=>?_;refine aD (vY hl) λhl hts=>?_;refine bQ (kd hk) λp hp pY hk=>?_;subst pY;refine kk ?_
  split at hk
  ·injection hk
  ·exact absurd (ok.loc p hp hk.symm hy) hts
 ·refine eQ λkk=>?_;refine aD (vY hl) λhl hts=>?_
  have hp:∃p∈sc.names,p.1=y/\p.2=.free:=by
   rcases hk with hk|hk<;>obtain⟨p,hp,rfl,hk⟩:=kd hk
   ·split at hk
    ·rename_i hz;exact⟨p,hp,rfl,by simpa using (dK.mp hz).1⟩
    ·exact absurd hk.symm (ok.CO p hp)
   ·split at hk
    ·injection hk
    ·exact bS p hp rfl hk.symm
  obtain⟨p,hp,rfl,hf⟩:=hp;obtain⟨c,hc⟩:=m6 p hp hf;obtain⟨c',w,e1,e2,e3⟩:=rn.cv p.1 v hy hl (.inl (by show env.scope.names.lookup p.1=_;refine ah hn ?_;exact ok.free p hp hf));refine kk ?_;refine kY (cl.lookup p.1) (λhq=>?_) (λd hq=>?_)
  ·exact absurd hc (by
    intro hc;rw[zB] at hq
    have:=hq _ hc;simp at this)
  ·have:=BV _ _ (f_ hq);replace this:=e1▸this;injection this with g1;subst g1
   exact dy c' w hq e2 e3
theorem Nq{sc:Scope}{ts:List Nat}{cl:List (Str×ag)}{C:ag}(hn:env.scope.names=nm)(ok:oO nm sc ts)(f:Fe N env)(BV:∀x c,(x,c)∈cl->env.cells.lookup x=some c)(m6:∀p∈sc.names,p.2=.free->∃c,(p.1,c)∈cl)(hC:C∉N)(fp:List ag)(hfC:C∈fp):Fe (fp++N) (compEnvC sc cl C env) where
 fn:=ok.kind
 gl:=f.gl
 bl:=f.bl
 loc:=a0 _ hfC
 cell:=λy c hc=>⟨bD _ (f.Si y c (BV y c hc)).1,λe=>hC (by have e:c=C:=e;refine eV e ?_;exact(f.Si y c (BV y c hc)).1)⟩
 XR:=λx y c h1 h2=>f.XR x y c (BV _ _ (f_ h1)) (BV _ _ (f_ h2))
 P_:=λy hy=>by
  have e:(relabel sc env).names.lookup y=some .cell:=hy;replace e:=hn▸((la f.fn)▸e);refine bQ (xy e) λp hp p7 hk=>?_;subst p7
  have hf:p.2=.free:=by
   split at hk
   ·rename_i hz;simpa using (dK.mp hz).1
   ·exact absurd hk.symm (ok.CO p hp)
  refine bc (m6 p hp hf) λc hc=>?_;refine kY (cl.lookup p.1) (λhq=>?_) (λd hq=>?_);rotate_left
  ·exact⟨d,hq⟩
  ·exact absurd hc (by
    intro hc;rw[zB] at hq
    have:=hq _ hc;simp at this)
end
section
variable{X:Cx}{n:Nat}{nm Nr:Nm}{A:aM}{F N fp:List ag}{M aK az ρ₀:List Lc}{s s' ru aw s₀:aj}{v w x:V}{u u' it:aa}{B ao μ₁:Mm}{env nc:PySem.Env}{E eR:Env}{G:Gt}{h h':ay}{Z Z':List ag}{prog:Program}{wd:aY}{acW:aa->aj->Prop}{target elt:PySem.Expr}{t:Tg}{c:C}{K:Kc}
theorem rB(hK:KS X n K)(hx:Es X n Nr elt c):∀(k j:Nat)(acc:V)(B:Mm){x:V}{ao:Mm},dT c t v K E k j acc B=.ok x ao->Ok ao->Ok B:=by
 intro zr
 induction zr with
 |zero=>
  exact @λ_ _ _ _ _ e _=>by exact absurd e nE
 |succ k bN=>
  exact @λj acc B x ao e o=>by
   have e: @RD.rec (λY=>RE) RE.no (s_ (fk acc V.nil) B) (λy=>kI c K (t y E B) B (λz B=>dT c t v K E k (aZ j) (.cons z acc) B)) (drawn v j B)=.ok x ao:=e;refine W6 (drawn v j B) (λhd=>?_) (λhd=>?_) (λy hd=>?_)
   ·rw[hd] at e;exact j9 e
   ·rw[hd] at e;refine aD (iH (show iV (fk acc V.nil) B=.ok x ao from e)) λY e=>?_;refine c_ (fQ e) λY Y ob=>?_;show AllP B.nj;refine eV ob ?_;exact o
   ·rw[hd] at e;have e:kI c K (t y E B) B (λz B=>dT c t v K E k (aZ j) (.cons z acc) B)=.ok x ao:=e;refine VS (t y E B) (λht=>?_) (λε₁ ht=>?_)
    ·rw[ht] at e;exact j9 e
    ·rw[ht] at e;refine a6 (a7 (show cw (c K ε₁ B) _=.ok x ao from e)) λz aE h1 h2=>?_;exact(hx K hK ε₁ B z aE h1 (bN _ _ aE h2 o)).1
noncomputable def pO(l:V):Bool:=@V.rec (λY=>Bool) false (λY=>false) (λY=>false) (λY=>false) (λY Y=>false) (λY=>false) (λY=>false) (λY=>false) (λY Y=>false) (λY Y=>false) (λY Y=>false) (λY Y Y=>false) (λY Y Y=>false) (λY Y=>false) (λY=>false) (λY=>false) (λY=>false) (λY=>false) true (λY Y Y r=>r) (λY Y Y Y Y Y=>false) (λY Y Y Y Y=>false) l
theorem CP{l m k:V}:a_ (a_ l m) k=a_ l (a_ m k):=by
 induction l with
 |cons a r _ ih=>exact congrArg (V.cons a) ih
 |kv a b r _ _ ih=>exact congrArg (V.kv a b) ih
 |_=>rfl
theorem vZ{l:V}:∀(m:V),pO l=true->fk l m=a_ (fk l .nil) m:=by
 induction l with
 |nil=>intro m _;rfl
 |cons a r _ ih=>
  intro m h;show fk r (.cons a m)=a_ (fk r (.cons a .nil)) m;refine ah (ih (.cons a m) h) (ah (ih (.cons a .nil) h) (ah CP ?_))
  rfl
 |_=>intro m h;exact absurd h nT
structure Fin(X:Cx)(N:List ag)(ρ₀:List Lc)(s₀:aj)(C D:ag)(xr:V)(Hh:Mm)(s':aj)(l:V)(ao:Mm)(aK:List Lc)(ys:Array aa):Prop where
 new:iV l ao=.ok xr Hh
 gs:Gs [] ρ₀ s₀ aK s'
 rd:R0 X ao.bk (C::D::N) aK s'.heap
 ns:∃m,s'.heap.Ns C m
 pl:s'.heap.PlainList D ys
 vl:VL X s'.heap ((C::D::N)++foot aK) aK l ys.toList
theorem Ud{R:Result->aj->Prop}{iter:PySem.Expr}{sc:Scope}{pos:Pos}{e₀:Env}{C D:ag}{J:Nat->ay->Prop}{xr:V}{Hh:Mm}{vx:V}
  (hK:KS X n K) (ht:Tq X Nr target t) (hl:AW Nr target) (hx:Es X n Nr elt c) (acU:AX X A target v vx u it fp J) (rm:Rm n A) (LM:nc.scope.names=Nr) (hL:nc.locals=C)
  {A1:List O} (Hf:R0 X A1 N ρ₀ s₀.heap) (hi:∀b∈fp,s₀.heap.get? b=none) (hC:s₀.heap.get? C=none) (hD:s₀.heap.get? D=none) (hiC:C∉fp) (hiD:D∉fp) (V4:C≠D)
  (fc:Fe (fp++(C::D::N)) nc) (rc:∀{B:Mm}{M:List Lc}{s:aj},(∀b o,b∈own env->s₀.heap.get? b=some o->s.heap.get? b=some o)->R0 X B.bk (fp++(C::D::N)) M s.heap->(∃m,s.heap.Ns C m)->Gs [] ρ₀ s₀ M s->Rn X nc e₀ (fp++(C::D::N)) M s.heap)
  (Ue:∀b∈own env,b∈N)
  (o:Ok Hh) (hr:dT c t v K e₀ turns 0 .nil B=.ok xr Hh) (rd:R0 X B.bk (fp++(C::D::N)) M s.heap) (q:VR X s.heap ((fp++(C::D::N))++foot M) M vx u) (g:Gs [] ρ₀ s₀ M s) (hj:J 0 s.heap)
  (pl:s.heap.PlainList D #[]) (hns:∃m,s.heap.Ns C m) (hR:∀s' l ao aK ys,Fin X N ρ₀ s₀ C D xr Hh s' l ao aK ys->R (.ok .next) s'):
  codeAny (model X.prog X.w) A (.compLoop (.ListComp elt [⟨target,iter,[],0⟩] sc pos) 0 it (.ref D) nc) R s:=by
 have sub:∀b∈N,b∈fp++(C::D::N):=λb m=>bD _ (aP _ (aP _ m));have abB:∀{a},s₀.heap.get? a=none->a∉N:=λ{a} e m=>by refine bc (Hf.live a m) λo z=>?_;rw[e] at z;(injection z)
 have hS:∀{a:ag}{h h':ay}{M:List Lc},a∈fp++(C::D::N)->(∀b o,b≠a->h.get? b=some o->h'.get? b=some o)->eK ((fp++(C::D::N))++foot M) M h ((fp++(C::D::N))++foot M) M h':=λ{a h h' M} ha k=>
  ⟨λb o m e=>k b o (λq=>m (q▸a0 _ ha)) e,λY m q=>absurd m q,λY Y e=>e⟩
 have chg:∀{a:ag}{h h':ay}{M:List Lc}{I:List O},a∈fp++(C::D::N)->R0 X I (fp++(C::D::N)) M h->(∀b o,b≠a->h.get? b=some o->h'.get? b=some o)->(∃o,h'.get? a=some o)->R0 X I (fp++(C::D::N)) M h':=λ{a h h' M I} ha rd k lv=>
  rd.chg (λb o m e=>k b o (λq=>m (q▸ha)) e) λb m=>by
   by_cases q:b=a
   ·refine ah q ?_;exact lv
   ·refine bc (rd.live b m) λo e=>?_;exact⟨o,k b o q e⟩
 have step:∀{a:ag}{M:List Lc}{s s':aj},s₀.heap.get? a=none->Gs [] ρ₀ s₀ M s->(∀b o,b≠a->s.heap.get? b=some o->s'.heap.get? b=some o)->s'.gens=s.gens->s'.os=s.os->Gs [] ρ₀ s₀ M s':=λ{a M s s'} ha g k h1 h2=>
  g.step (fp:=[a]) (λb o m e=>k b o (λq=>m (q▸aV.mpr rfl)) e) (λb m=>by refine ah (aV.mp m) ?_;exact ha) h1 h2
 have Ug:∀{h h':ay},(∀o,h.get? C=some o->h'.get? C=some o)->(∃m,h.Ns C m)->∃m,h'.Ns C m:=λ{h h'} k ⟨m,e⟩=>⟨m,e.at k⟩;have mC:C∈fp++(C::D::N):=bD _ aW;have mD:D∈fp++(C::D::N):=bD _ (aP _ aW);have Y1:∀{M:List Lc}{s:aj},Gs [] ρ₀ s₀ M s->∀b o,b∈own env->s₀.heap.get? b=some o->s.heap.get? b=some o:=λ{M s} g b o m e=>g.keep b o (λq=>Hf.apart b q (Ue b m)) (by simp) e
 refine codeAny_loop rfl (λk s'=>∃j acc ao aK ys,dT c t v K e₀ k j acc ao=.ok xr Hh/\R0 X ao.bk (fp++(C::D::N)) aK s'.heap/\VR X s'.heap ((fp++(C::D::N))++foot aK) aK vx u/\Gs [] ρ₀ s₀ aK s'/\J j s'.heap/\
  s'.heap.PlainList D ys/\(∃m,s'.heap.Ns C m)/\pO acc=true/\VL X s'.heap ((fp++(C::D::N))++foot aK) aK (fk acc .nil) ys.toList/\ys.size+k=turns) ?_ turns (W4 0 .nil B M (#[]) hr rd q g hj pl hns rfl rfl (d8 _))
 intro k' s' pD;refine WV pD λj acc ao aK ys er mx q' g' Qi pl' Nt ha' vl' hz'=>?_;clear pD
 induction k' using dM with
 |zero=>exact absurd er nE
 |succ k'=>
 show wpAny _ A ((compTurn (.ListComp elt [⟨target,iter,[],0⟩] sc pos) 0 it (.ref D) nc).onRaise (λx=>do noteFrame x nc;theTreesLotGoes x)) _ _ s';refine wpAny_noted ?_;rw[compTurn_list1];have er: @RD.rec (λY=>RE) RE.no (s_ (fk acc V.nil) ao) (λy=>kI c K (t y e₀ ao) ao (λz B=>dT c t v K e₀ k' (aZ j) (.cons z acc) B)) (drawn v j ao)=.ok xr Hh:=er;refine W6 (drawn v j ao) (λhd=>?_) (λhd=>?_) (λy hd=>?_)
 ·rw[hd] at er;exact j9 er
 ·rw[hd] at er;refine ax (e7 (ax (aA (acU.fin j ao (C::D::N) aK s' (λr aw=>r=none/\(∀b o,b∉fp->s'.heap.get? b=some o->aw.heap.get? b=some o)/\aw.gens=s'.gens/\aw.os=s'.os) hd Qi mx q' λaw k1 hg ho=>(ib rfl k1 hg ho)) (λr aw z=>?_) λY Y e=>e.elim)));refine mG z λI7 k1 hg ho=>?_;subst I7
  have dis:∀b∈fp,b∉C::D::N:=λb m n=>by
   rcases aR.mp n with rfl|n
   ·exact hiC m
   ·rcases aR.mp n with rfl|n
    ·exact hiD m
    ·exact abB (hi b m) n
  refine aX (hR aw (fk acc .nil) ao aK ys ⟨er,g'.step k1 hi hg ho,mx.off k1 dis,Ug (λo=>k1 C o hiC) Nt,?_,vl'.mono (oN k1)⟩);refine bc pl' λNu e=>?_;exact⟨Nu,k1 D _ hiD e⟩
 ·rw[hd] at er;have er:kI c K (t y e₀ ao) ao (λz B=>dT c t v K e₀ k' (aZ j) (.cons z acc) B)=.ok xr Hh:=er;refine VS (t y e₀ ao) (λhty=>?_) (λε₁ hty=>?_)
  ·rw[hty] at er;exact j9 er
  rw[hty] at er;refine a6 (a7 (show cw (c K ε₁ ao) _=.ok xr Hh from er)) λz aE h1 h2=>?_;have o2:Ok aE:=rB hK hx _ _ _ _ h2 o;have gx:=(hx K hK ε₁ ao z aE h1 o2).2
  refine ax (e7 (ax (aA (acU.item j y ao (C::D::N) aK s' (λw aw=>J (j+1) aw.heap/\(∀b o,b∉fp->s'.heap.get? b=some o->aw.heap.get? b=some o)/\(∀b∈fp,∃o,aw.heap.get? b=some o)/\aw.gens=s'.gens/\aw.os=s'.os/\VR X aw.heap ((fp++(C::D::N))++foot aK) aK y w) hd Qi mx q'
   λw aw hj1 k1 l1 hg ho qw=>(WX hj1 k1 l1 hg ho qw)) (λr aw zz=>?_) λY Y e=>e.elim)))
  obtain⟨w,rfl,zz⟩:=zz;refine ax (aA zz (λY aw vP=>?_) λY Y e=>e.elim);obtain⟨hj1,k1,l1,hg,ho,qw⟩:=vP
  have cj:R0 X ao.bk (fp++(C::D::N)) aK aw.heap:=mx.chg (λb o m e=>k1 b o (λq=>m (a0 _ q)) e) λb m=>by
   by_cases q:b∈fp
   ·exact l1 b q
   ·obtain⟨o,e⟩:=mx.live b m;exact⟨o,k1 b o q e⟩
  have P1:eK ((fp++(C::D::N))++foot aK) aK s'.heap ((fp++(C::D::N))++foot aK) aK aw.heap:=⟨λb o m e=>k1 b o (λq=>m (a0 _ (a0 _ q))) e,λY m q=>absurd m q,λY Y e=>e⟩;have g1:=g'.step k1 hi hg ho;have fu:Rn X nc e₀ (fp++(C::D::N)) aK aw.heap:=rc (Y1 g1) cj (Ug (λo=>k1 C o hiC) Nt) g1
  refine ax (aA (ht y e₀ ao ε₁ hty nc A (fp++(C::D::N)) aK aw w (λY s₂=>Rd X (fp++(C::D::N)) aK s₂ ao/\Rn X nc ε₁ (fp++(C::D::N)) aK s₂.heap/\(∀b o,b≠C->aw.heap.get? b=some o->s₂.heap.get? b=some o)/\s₂.gens=aw.gens/\s₂.os=aw.os) LM rm.1 fc cj fu qw
   λs₂ a b cc kl=>⟨b,cc,by have:=kl hl;rw[hL] at this;exact this,a.gens,a.os⟩) (λY s₂ ⟨eh,gP,k2,hg2,x8⟩=>?_) λY Y e=>e.elim)
  have P2:=hS (M:=aK) mC k2;have g2:=step hC g1 k2 hg2 x8;refine ax (ax (aA (gx nc A (fp++(C::D::N)) aK s₂ LM rm fc eh gP) (λzu cR SF=>?_) λY Y e=>e.elim));obtain⟨cI,k3,kA,qz⟩:=SF;have P3:eK ((fp++(C::D::N))++foot aK) aK s₂.heap ((fp++(C::D::N))++foot cI) cI cR.heap:=k3.hS;have g3:=g2.tr (λb hb=>absurd hb (by simp)) Hf (eh.less sub) k3.gs
  have abC:∃m,cR.heap.Ns C m:=by
   obtain⟨m,hm,_⟩:=(gP.gw fc eh k3).ns;rw[hL] at hm;exact⟨m,hm⟩
  have Ql:∀a∈fp++(C::D::N),∀o,s₂.heap.get? a=some o->cR.heap.get? a=some o:=λa m o e=>k3.keep a o (λq=>eh.apart a q m) e
  have pl3:cR.heap.PlainList D ys:=by
   obtain⟨Nu,e⟩:=pl';exact⟨Nu,Ql D mD _ (k2 D _ (jC V4) (k1 D _ hiD e))⟩
  have vl3:VL X cR.heap ((fp++(C::D::N))++foot cI) cI (fk acc .nil) ys.toList:=((vl'.mono P1).mono P2).mono P3
  refine ax (zQ pl3 (λUh pl4 sb=>?_) (by
   refine ah dm ?_
   have:ys.size+(k'+1)=600:=hz';omega))
  have k4:∀b o,b≠D->cR.heap.get? b=some o->Uh.get? b=some o:=λb o n e=>sb.extBut b o n e;have P4:=hS (M:=cI) mD k4;refine aX (aX ⟨rfl,k',jA _,j+1,.cons z acc,aE,cI,ys.push zu,h2,chg (h':=Uh) mD kA k4 ?_,VR.mono P4 vx (VR.mono P3 vx (VR.mono P2 vx (VR.mono P1 vx q'))),step (s':={cR with heap:=Uh}) hD g3 k4 rfl rfl,?_,pl4,Ug (λo=>k4 C o V4) abC,ha',?_,?_⟩)
  ·obtain⟨Nu,e⟩:=pl4;exact⟨_,e⟩
  ·refine acU.Gh j _ _ hj1 λb m o e=>?_;have hbC:b≠C:=λq=>hiC (q▸m);have hbD:b≠D:=λq=>hiD (q▸m);exact k4 b o hbD (Ql b (a0 _ m) o (k2 b o hbC e))
  ·show VL _ _ _ _ (fk acc (.cons z .nil)) _;refine ah (vZ _ ha') (ah zl ?_);exact mN (vl3.mono P4) (dy zu [] rfl (VR.mono P4 z qz) rfl)
  ·rw[Array.size_push];lia
theorem Fin.pe{C D:ag}{xr:V}{Hh:Mm}{l:V}{ys:Array aa}(f:Fin X N ρ₀ s₀ C D xr Hh s' l ao aK ys)(hC:s₀.heap.get? C=none)(hD:s₀.heap.get? D=none)(hCN:C∉N)(hDN:D∉N)(V4:C≠D):
  Gw ρ₀ s₀ (aK++[.one D]) s'/\R0 X Hh.bk (C::N) (aK++[.one D]) s'.heap/\VR X s'.heap ((C::N)++foot (aK++[.one D])) (aK++[.one D]) xr (.ref D):=by
 refine aD (iH f.new) λtw BU=>?_;refine c_ (fQ BU) λCH st Y=>?_;subst CH;have g2:=f.gs.gw
 have r1:R0 X ao.bk (D::C::N) aK s'.heap:=f.rd.less λb m=>by
  simp only[aR] at m ⊢
  rcases m with h|h|h
  ·exact .inr (.inl h)
  ·exact .inl h
  ·exact .inr (.inr h)
 have P1:eK ((C::D::N)++foot aK) aK s'.heap ((D::C::N)++foot aK) aK s'.heap:=mh λb m=>by
  simp only[aR] at m ⊢
  rcases m with h|h|h
  ·exact .inr (.inl h)
  ·exact .inl h
  ·exact .inr (.inr h)
 have sb':∀b o,b≠D->s'.heap.get? b=some o->s'.heap.get? b=some o:=λY Y Y e=>e;have P2:eK ((D::(C::N))++foot aK) aK s'.heap ((C::N)++foot (aK++[.one D])) (aK++[.one D]) s'.heap:=p_ sb'
 have Y2:D∉C::N:=λm=>by
  rcases aR.mp m with q|q
  ·exact V4 q.symm
  ·exact hDN q
 refine(bL ⟨λb o n e=>g2.keep b o n e,λb m n=>?_,λi p e=>?_,g2.gens,g2.os⟩ (by refine ah st ?_;exact r1.adopt Y2 sb' (dy _ _ rfl f.pl ((f.vl.mono P1).mono P2))) (bS (.one D) ?_ (λh=>nomatch h) rfl))
 ·rw[gL] at m
  rcases bp.mp m with m|m
  ·exact g2.fresh b m n
  ·simp only[foot,lI,List.flatMap_nil,Lc.foot,cM,aV] at m;refine ah m ?_;exact hD
 ·have:=g2.pre i p e;refine ah (lD (cA.mp this).1) ?_;exact this
 ·refine ah r1.bk.len ?_;simp
end
section
variable{X:Cx}{n:Nat}{nm Nr:Nm}{A:aM}{F N fp:List ag}{M aK az ρ₀:List Lc}{s s' ru aw s₀ s₂:aj}{v w x vx:V}{u u' it:aa}{B ao μ₁:Mm}{env nc:PySem.Env}{E eR:Env}{G:Gt}{h h':ay}{Z Z':List ag}{prog:Program}{wd:aY}{acW:aa->aj->Prop}{target elt:PySem.Expr}{t:Tg}{c a:C}{K:Kc}
theorem oP{k j:Nat}{acc:V}(e:dT c t v K E k j acc B=.ok x ao):drawn v j B≠ .no:=λq=>by
 induction k using dM with
 |zero=>exact absurd e nE
 |succ k=>
  have e: @RD.rec (λY=>RE) RE.no (s_ (fk acc V.nil) B) (λy=>kI c K (t y E B) B (λz B=>dT c t v K E k (aZ j) (.cons z acc) B)) (drawn v j B)=.ok x ao:=e;replace e:=q▸e;exact j9 e
theorem so{iter:PySem.Expr}{sc:Scope}{pos:Pos}{ts:List Nat}{cl:List (Str×ag)}{use:Option (aa->Sem Unit)}{Q:aa->aj->Prop}{J:Nat->ay->Prop}(ok:oO nm sc ts)(ht:Tq X (kj nm sc.names) target t)(hl:AW (kj nm sc.names) target)(hx:Es X n (kj nm sc.names) elt c)(hK:KS X n K)(o:Ok ao)
  (hn:env.scope.names=nm) (rm:Rm n A) (f:Fe N env) (rd:Rd X N M s B) (rn:Rn X env E N M s.heap) (k1:Gw M s az aw) (cj:R0 X μ₁.bk N az aw.heap) (q1:VR X aw.heap (N++foot az) az vx u)
  (BV:∀x c,(x,c)∈cl->env.cells.lookup x=some c) (m6:∀p∈sc.names,p.2=.free->∃c,(p.1,c)∈cl)
  (acU:AX X A target v vx u it fp J) (ka:All aw.heap s₂.heap) (Y3:∀b∈fp,aw.heap.get? b=none) (yq:∀b∈fp,∃o,s₂.heap.get? b=some o) (hj:J 0 s₂.heap) (hg:s₂.gens=aw.gens) (ho:s₂.os=aw.os)
  (h2:dT c t v K (jn ts E) turns 0 .nil μ₁=.ok x ao)
  (Ui:∀C D s' l A4 aK ys,Fin X N M s C D x ao s' l A4 aK ys->s.heap.get? C=none->s.heap.get? D=none->C∉N->D∉N->C≠D->compPost (model X.prog X.w) A E0 use Q (.ref D) C (.ok .next) s'):
  wpAny (model X.prog X.w) A (newList []) (λacc cR=>wpAny (model X.prog X.w) A (newFunctionEnv sc env.globals cl [] env.qual none .none (some env)) (λnc tc=>
    codeAny (model X.prog X.w) A (.compStart (.ListComp elt [⟨target,iter,[],0⟩] sc pos) 0 it acc {nc with scope:=relabel sc env}) (compPost (model X.prog X.w) A E0 use Q acc nc.locals) tc) E0 cR) E0 s₂:=by
 refine wpAny_newObj_type (wpAny_newFunctionEnv ok.CO (by intro y hy;simp at hy) (λjj v3 yr=>?_) ok.kind);dsimp only at v3 yr ⊢
 generalize hH2:s₂.heap.push {cls:=.type "list",dict:=none,data:=.seq ([] :List aa).toArray}=H2 at v3 yr ⊢
 have hCs:H2.objs.size=s₂.heap.objs.size+1:=by rw[←hH2,Heap.size_push]
 have Y2:s₂.heap.objs.size≠H2.objs.size:=by refine ah hCs ?_;exact qG (jA _)
 have fr2:∀b,s₂.heap.objs.size≤b->s₂.heap.get? b=none:=λb hb=>by
  refine kZ (s₂.heap.get? b) (λe=>?_) (λo' e=>?_)
  ·rfl
  ·exact absurd (iE e) (iB.mpr hb)
 have all2:All s₂.heap jj:=λb o e=>yr.extBut b o (λq=>by
  have:=iE e;replace this:=hCs▸(q▸this);exact absurd this (iB.mpr (fZ _))) (n_ _ (hH2▸n_ _ e))
 have hD:jj.get? s₂.heap.objs.size=some {cls:=.type "list",dict:=none,data:=.seq ([] :List aa).toArray}:=yr.extBut _ _ Y2 (n_ _ (hH2▸bX _ rfl));have all:All aw.heap jj:=ka.trans all2
 have hs1:∀b,s₂.heap.get? b=none->aw.heap.get? b=none:=λb e=>by
  refine kZ (aw.heap.get? b) (λz=>?_) (λo' z=>?_)
  ·rfl
  ·replace e:=(ka b o' z)▸e;(injection e)
 have hfD:=fr2 s₂.heap.objs.size (bT _);have hfC:=fr2 H2.objs.size (by refine ah hCs ?_;exact fZ _);have ne:∀b,s₂.heap.get? b=none->b∉fp:=λb e q=>by refine bc (yq b q) λo' z=>?_;replace z:=e▸z;(injection z)
 have fr:∀b∈fp++[H2.objs.size,s₂.heap.objs.size],aw.heap.get? b=none:=λb m=>by
  rcases bp.mp m with m|m
  ·exact Y3 b m
  ·simp only[aR,fw,or_false] at m
   rcases m with rfl|rfl
   ·exact hs1 _ hfC
   ·exact hs1 _ hfD
 have lv:∀b∈fp++[H2.objs.size,s₂.heap.objs.size],∃o,jj.get? b=some o:=λb m=>by
  rcases bp.mp m with m|m
  ·refine bc (yq b m) λo' z=>?_;exact⟨o',all2 _ _ z⟩
  ·simp only[aR,fw,or_false] at m
   rcases m with rfl|rfl
   ·refine Mi v3 λo' Y Y z Y=>?_;clear v3;exact⟨o',z⟩
   ·exact⟨_,hD⟩
 have V5:∀b∈fp++[H2.objs.size,s₂.heap.objs.size],s.heap.get? b=none:=λb m=>Gw.none k1 cj (fr b m);have mC:H2.objs.size∈fp++[H2.objs.size,s₂.heap.objs.size] :=bD _ aW;have mD:s₂.heap.objs.size∈fp++[H2.objs.size,s₂.heap.objs.size] :=bD _ (aP _ aW);have Uj:∀b∈fp++[H2.objs.size,s₂.heap.objs.size],b∉N:=λb mb m=>by refine bc (cj.live _ m) λo' z=>?_;replace z:=(fr _ mb)▸z;(injection z)
 have Ue:∀b∈own env,b∈N:=λb m=>fA f m;have hnn:(compEnvC sc cl H2.objs.size env).scope.names=kj nm sc.names:=by refine eV hn ?_;exact la f.fn
 have eqN:(fp++[H2.objs.size,s₂.heap.objs.size])++N=fp++(H2.objs.size::s₂.heap.objs.size::N):=by simp
 have loop:∀tc:aj,tc.heap=jj->tc.gens=s₂.gens->tc.os=s₂.os->codeAny (model X.prog X.w) A (.compLoop (.ListComp elt [⟨target,iter,[],0⟩] sc pos) 0 it (.ref s₂.heap.objs.size) (compEnvC sc cl H2.objs.size env)) (compPost (model X.prog X.w) A E0 use Q (.ref s₂.heap.objs.size) H2.objs.size) tc:=λtc e1 e2 e3=>by
  have gw:Gw M s az tc:=k1.trans (Gw.all (by refine ah e1 ?_;exact all) (e2.trans hg) (e3.trans ho))
  refine Ud (C:=H2.objs.size) (D:=s₂.heap.objs.size) (N:=N) (ρ₀:=M) (s₀:=s) (env:=env) hK ht hl hx acU rm hnn rfl rd (λb m=>V5 b (a0 _ m)) (V5 _ mC) (V5 _ mD) (ne _ hfC) (ne _ hfD) (jC Y2)
   (by refine eV eqN ?_;exact Nq hn ok f BV m6 (Uj _ mC) _ mC) (e₀:=jn ts E) (λ{B aK s'} hk mx Nt g'=>?_) Ue o h2 ?_ ?_ gw.gs ?_ ?_ ?_ λs' l A4 aK ys ff=>Ui _ _ s' l A4 aK ys ff (V5 _ mC) (V5 _ mD) (Uj _ mC) (Uj _ mD) (jC Y2)
  ·refine eV eqN ?_;have P:eK (N++foot M) M s.heap (((fp++[H2.objs.size,s₂.heap.objs.size])++N)++foot aK) aK s'.heap:=⟨λb o m e=>g'.keep b o (λq=>m (bD _ q)) (by simp) e,λb m n=>?_,g'.pre⟩
   ·exact Np (C:=H2.objs.size) hn ok (f.more λb m=>bD _ m) BV m6 (rn.to P λb m o e=>hk b o m e) Nt
   ·rcases bp.mp m with m|m
    ·rcases bp.mp m with m|m
     ·exact V5 b m
     ·exact absurd (a0 _ m) n
    ·exact g'.fresh b m λq=>n (bD _ q)
  ·refine ah e1 (eV eqN ?_);exact R0.add cj all fr lv
  ·refine ah e1 (eV eqN ?_);exact VR.mono (oF all fr) vx q1
  ·refine ah e1 ?_;exact acU.xx _ _ hj all2
  ·refine ah e1 ?_;exact⟨_,hD⟩
  ·refine ah e1 ?_;exact⟨_,v3⟩
 refine codeAny_compStart_list (loop _ rfl rfl rfl) (acU.self _ _ _ (acU.xx _ _ hj all2) (loop _ rfl rfl rfl))
theorem A5{C D:ag}{l:V}{A4:Mm}{ys:Array aa}(ff:Fin X N M s C D x ao s' l A4 aK ys)(rd:Rd X N M s B)(hC:s.heap.get? C=none)(hD:s.heap.get? D=none)(hCN:C∉N)(hDN:D∉N)(V4:C≠D):
  compPost (model X.prog X.w) A E0 none (Pe X N M s x ao) (.ref D) C (.ok .next) s':=by
 refine eQ λkk=>?_;refine c_ (ff.pe hC hD hCN hDN V4) λg r q=>?_;refine bc ff.ns λm hm=>?_;refine kk ?_;refine(aQ m hm (λh' sb=>?_));have k:∀b o,b∉ [C] ->s'.heap.get? b=some o->h'.get? b=some o:=λb o n e=>sb.extBut b o (λq=>n (q▸aV.mpr rfl)) e;have gg:Gw M s (aK++[.one D]) {s' with heap:=h'}:=(g.gs (F:=[]).step (fp:=[C]) (s':={s' with heap:=h'}) k (λb m=>by refine ah (aV.mp m) ?_;exact hC) rfl rfl).gw;have r:R0 X ao.bk ([C] ++N) (aK++[.one D]) s'.heap:=r;have q:VR X s'.heap (([C] ++N)++foot (aK++[.one D])) (aK++[.one D]) x (.ref D):=q;exact⟨aK++[.one D],gg,R0.off (h':=h') r k λb m=>by refine ah (aV.mp m) ?_;exact hCN,VR.mono (oN (h':=h') k) x q⟩
theorem Nv{iter:PySem.Expr}{sc:Scope}{pos:Pos}{ts:List Nat}(ok:oO nm sc ts)(ha:Es X n nm iter a)(hp:fB iter=true)(ht:Tq X (kj nm sc.names) target t)(hl:AW (kj nm sc.names) target)(hx:Es X n (kj nm sc.names) elt c):Es X n nm (.ListComp elt [⟨target,iter,[],0⟩] sc pos) (j7 ts c t a):=λK hK E B x ao e o=>by
 refine a6 (a7 e) λv μ₁ h1 h2=>?_;refine aD (ha K hK E B v μ₁ h1 (rB hK hx _ _ _ _ h2 o)) λo0 ga=>?_;refine⟨o0,λenv A N M s hn rm f rd rn=>?_⟩;rw[eval_ListComp];refine bQ (Uc (env:=env) (sc:=sc) λp hp hf=>f.P_ p.1 (by show env.scope.names.lookup p.1=_;refine ah hn ?_;exact ok.free p hp hf)) λcl A6 BV m6=>?_;refine uH (use:=none) rfl (yp hp) A6 ok.kind ok.same ?_;refine Pe.go (H:=aa) (t:=eval iter env) f rd rn (ga env A N M s hn rm f rd rn) λu az aw k1 cj fu q1=>?_;refine aA (CN (target:=target) rm.1 cj q1 (oP h2)) (λit s₂ pD=>?_) (λY Y e=>e.elim);refine Rb pD λi J acU ka Y3 yq hj hg ho=>?_;clear pD
 exact so ok ht hl hx hK o hn rm f rd rn k1 cj q1 BV m6 acU ka (λb m=>by refine ah (aV.mp m) ?_;exact Y3) (λb m=>by refine ah (aV.mp m) ?_;exact yq) hj hg ho h2
  λC D s' l A4 aK ys ff a1 a2 a3 a4 a5=>A5 ff rd a1 a2 a3 a4 a5
theorem Jn(g:k9 X G){id:Str}{p cp:Pos}{pE:PySem.Expr}{l:C}{Qm:List PySem.Expr}{kd}{tp:Pos}{sc:Scope}{pos:Pos}{ts:List Nat}(ok:oO nm sc ts)(hf:Gv X nm (.Name id p) (.blt 2))(VV:El X n nm [pE] l)(hp:fK [pE] =true)(ht:Tq X (kj nm sc.names) (.Tuple Qm kd tp) t)(hl:AW (kj nm sc.names) (.Tuple Qm kd tp))(hx:Es X n (kj nm sc.names) elt c):
  Es X n nm (.ListComp elt [⟨.Tuple Qm kd tp,.Call (.Name id p) [pE] [] cp,[],0⟩] sc pos) (j7 ts c t (jE 2 l)):=λK hK E B x ao e o=>by
 refine eQ λkk=>?_;refine a6 (a7 e) λv μ₁ h1 h2=>?_;refine a6 (a7 h1) λlv aE h3 h4=>?_;refine aL (D_ (show j6 Hx lv aE=.ok v μ₁ from h4)) λw Cp h5=>?_;subst Cp;refine kk ?_
 cases h5
 refine aD (VV K hK E B _ _ h3 (rB hK hx _ _ _ _ h2 o)) λo0 gl=>?_;refine⟨o0,λenv A N M s hn rm f rd rn=>?_⟩;rw[eval_ListComp];refine bQ (Uc (env:=env) (sc:=sc) λp hp hf=>f.P_ p.1 (by show env.scope.names.lookup p.1=_;refine ah hn ?_;exact ok.free p hp hf)) λcl A6 BV m6=>?_;refine uH (use:=none) rfl (λY=>rfl) A6 ok.kind ok.same ?_;refine jM (hf env A N M s _ hn f rd.base rd.low λu q=>?_)
 cases q
 refine fV hp (yf _) (aA (gl env A N M s cp hn rm f rd rn) (λus aw ⟨az,k1,cj,q1⟩=>⟨cj.base,?_⟩) λY Y e=>e);refine bJ q1 λu us' p9 qw VX=>?_;clear q1;subst p9
 cases VX
 have Jm:∃l,dY w μ₁=.ok l:=by
  have:=oP h2;refine mOV (dY w μ₁) (λhl=>?_) (λl hl=>?_);rotate_left
  ·exact⟨l,rfl⟩
  ·exact absurd (show VQ 0 (dY w μ₁)=.no by refine ah hl ?_;rfl) this
 refine eQ λkk=>?_;refine bc Jm λll hll=>?_;clear Jm;refine bJ (dj cj hll qw) λa vs mM Ua vl=>?_;subst mM;refine kk ?_;refine call_enumerate_list Ua λfJ he hit hz ka=>uG he ?_
 have F4:∀b∈ [aw.heap.objs.size+1,aw.heap.objs.size],aw.heap.get? b=none:=λb m=>by
  rcases aR.mp m with rfl|m
  ·refine kZ (aw.heap.get? (aw.heap.objs.size+1)) (λe=>?_) (λo e=>?_)
   ·rfl
   ·exact absurd (iE e) (iB.mpr (fZ _))
  ·refine ah (aV.mp m) ?_;exact bG _
 have yq:∀b∈ [aw.heap.objs.size+1,aw.heap.objs.size],∃o,fJ.get? b=some o:=λb m=>by
  rcases aR.mp m with rfl|m
  ·exact⟨_,he⟩
  ·refine ah (aV.mp m) ?_;refine aL hit λo ho Y=>?_;clear hit;exact⟨o,ho⟩
 exact so (s₂:={aw with heap:=fJ}) ok ht hl hx hK o hn rm f rd rn k1 cj qw BV m6 (EG rm.1 (Nat.succ_ne_self _)) ka F4 yq ⟨⟨_,he⟩,hit⟩ rfl rfl h2
  λC D s' l A4 aK ys ff a1 a2 a3 a4 a5=>A5 ff rd a1 a2 a3 a4 a5
theorem Nw{iter:PySem.Expr}{sc:Scope}{pos Y4 py:Pos}{ts:List Nat}{y:Str}(ok:oO nm sc ts)(ha:Es X n nm iter a)(hp:fB iter=true)(ht:Tq X (kj nm sc.names) target t)(hl:AW (kj nm sc.names) target)(hx:Es X n (kj nm sc.names) elt c)
  (hy:bz y=true) (hk:nm.lookup y=some .local) (Yd:(py.line==pos.line)=true) (BU:(sc.names.any λp=>p.1==y&&(p.2== .local||p.2== .cell))=false):
  Ss X n nm (.Assign [.Name y py] (.ListComp elt [⟨target,iter,[],0⟩] sc pos) Y4) (m_ (idOf y) (j7 ts c t a)):=λK hK E B o=>by
 refine eQ λkk=>?_;refine bJ (ee o) λx ao e o' h9=>?_;have o':Ok ao:=o';refine a6 (a7 (show(cw (a K E B) λv B=>dT c t v K (jn ts E) turns 0 V.nil B)=.ok x ao from e)) λv μ₁ h1 h2=>?_;refine aD (ha K hK E B v μ₁ h1 (rB hK hx _ _ _ _ h2 o')) λo0 ga=>?_;refine kk ?_;refine⟨o0,λenv A N M s hn rm f rd rn=>?_⟩;have hky:env.kindOf y=some .local:=by show env.scope.names.lookup y=_;refine ah hn ?_;exact hk
 have hsw:swapsWith (.ListComp elt [⟨target,iter,[],0⟩] sc pos) (some (.Name y py)) Y4.line env=pure true:=by
  show(pure (env.blockKind== .function&&env.kindOf y==some .local&&py.line==pos.line&& !(sc.names.any λ(n,k)=>n==y&&(k== .local||k== .cell))):Sem Bool)=pure true;refine ah (show env.blockKind=.function by unfold PySem.Env.blockKind;rw[f.fn];rfl) (ah hky (ah Yd ?_))
  have:(sc.names.any λ(n,k)=>n==y&&(k== .local||k== .cell))=false:=BU;refine ah this ?_;rfl
 refine ah (exec_Assign_Name_used _ _ _ _ hsw) ?_;refine ax (e7 (ax ?_));show wpAny _ A (do let _←comprehension (.ListComp elt [⟨target,iter,[],0⟩] sc pos) sc env _ (newList []) false (eval iter env) (some (assign (.Name y py) env))) _ _ s;refine bQ (Uc (env:=env) (sc:=sc) λp hp hf=>f.P_ p.1 (by show env.scope.names.lookup p.1=_;refine ah hn ?_;exact ok.free p hp hf)) λcl A6 BV m6=>?_;refine ax (aA (uH (use:=some (assign (.Name y py) env)) (Q:=λY s'=>PS X (own env) env N M s (m_ (idOf y) (j7 ts c t a) K E B) .next s') rfl (yp hp) A6 ok.kind ok.same ?_) (λY s' hq=>aX (aX hq)) λY Y e=>e);refine Pe.go (H:=aa) (t:=eval iter env) f rd rn (ga env A N M s hn rm f rd rn) λu az aw k1 cj fu q1=>?_;refine aA (CN (target:=target) rm.1 cj q1 (oP h2)) (λit s₂ vP=>?_) (λY Y e=>e.elim);refine Rb vP λi J acU ka Y3 yq hj hg ho=>?_;clear vP
 refine so ok ht hl hx hK o' hn rm f rd rn k1 cj q1 BV m6 acU ka (λb m=>by refine ah (aV.mp m) ?_;exact Y3) (λb m=>by refine ah (aV.mp m) ?_;exact yq) hj hg ho h2
  λC D s' l A4 aK ys ff a1 a2 a3 a4 a5=>?_
 refine c_ (ff.pe a1 a2 a3 a4 a5) λg r q=>?_;refine bc ff.ns λm hm=>?_;have f':Fe (C::N) env:=f.more λb m=>aP _ m
 have P0:eK (N++foot M) M s.heap ((C::N)++foot (aK++[.one D])) (aK++[.one D]) s'.heap:=⟨λb o m e=>g.keep b o (λq=>m (bD _ q)) e,λb m n=>by
  rcases bp.mp m with m|m
  ·rcases aR.mp m with rfl|m
   ·exact a1
   ·exact absurd (a0 _ m) n
  ·exact g.fresh b m λq=>n (bD _ q),g.pre⟩
 have T5:Rn X env E (C::N) (aK++[.one D]) s'.heap:=rn.to P0 λb m o e=>g.keep b o (λq=>rd.apart b q (fA f m)) e;show wpAny _ A (assign (.Name y py) env (.ref D)) _ _ s';refine assign_Name (rr f' r T5 q hy (.inl hky) λcR hg3 V3 k3 kA vR kl=>?_);have hCL:C≠env.locals:=λq=>a3 (q▸f.loc);refine(aQ m (hm.at λo e=>kl hky C o hCL e) (λh' sb=>?_));have k:∀b o,b∉ [C] ->cR.heap.get? b=some o->h'.get? b=some o:=λb o n e=>sb.extBut b o (λq=>n (q▸aV.mpr rfl)) e;have hCo:C∉own env:=λm=>a3 (fA f m);refine ah (show m_ (idOf y) (j7 ts c t a) K E B=_ from h9) ?_;have kA:R0 X ao.bk ([C] ++N) (aK++[.one D]) cR.heap:=kA;have vR:Rn X env (eS E (idOf y) x) ([C] ++N) (aK++[.one D]) cR.heap:=vR;refine(bS (aK++[.one D]) ?_ (R0.off (h':=h') kA k (λb m=>by refine ah (aV.mp m) ?_;exact a3)) (vR.to (oN (h':=h') k) λb m o e=>k b o (λq=>hCo (aV.mp q▸m)) e));have g3:Gs (own env) M s (aK++[.one D]) cR:=g.gs.tr (λb hb=>fA f hb) rd (r.less λb m=>aP _ m) (ry f' r hg3 V3 k3);exact g3.step (s':={cR with heap:=h'}) k (λb m=>by refine ah (aV.mp m) ?_;exact a1) rfl rfl
end
theorem Jo{H:Type}:∀{ns:List Str}{vs:List H},vs.length=ns.length->ns.Nodup->ns.filterMap (λn=>((ns.zip vs).lookup n).map (n,·))=ns.zip vs:=by
 have key:∀(ns:List Str)(vs:List H)(pre:List (Str×H)),vs.length=ns.length->ns.Nodup->(∀n∈ns,n∉pre.map (·.1))->ns.filterMap (λn=>((pre++ns.zip vs).lookup n).map (n,·))=ns.zip vs:=by
  intro ns
  induction ns with
  |nil=>intro vs pre _ _ _;rfl
  |cons n ns ih=>
   intro vs pre hl nd hp
   induction vs using bE with
   |nil=>cases hl
   |cons v vs=>
    rw[gW] at nd
    have h1:(pre++(n::ns).zip (v::vs)).lookup n=some v:=by
     have:∀(pre:List (Str×H)),n∉pre.map (·.1)->(pre++(n,v)::ns.zip vs).lookup n=some v:=by
      intro pre
      induction pre with
      |nil=>intro _;simp[jR]
      |cons q pre ihp=>
       intro hq;rw[dB,aR,not_or] at hq;obtain⟨q1,q2⟩:=q;refine ah jx (ah jR ?_)
       have:(n==q1)=false:=beq_eq_false_iff_ne.mpr hq.1;refine ah this ?_;exact ihp hq.2
     exact this pre (hp n aW)
    refine ah List.filterMap_cons (ah h1 ?_)
    have h2:=ih vs (pre++[(n,v)]) (fO hl) nd.2 (λm hm hq=>by
     rw[gq,bp] at hq
     rcases hq with hq|hq
     ·exact hp m (aP _ hm) hq
     ·simp only[dB,nW,aV] at hq;subst hq;exact nd.1 hm)
    rw[bH] at h2;exact congrArg (cf (n,v)) h2
 intro ns vs hl nd;exact key ns vs [] hl nd (λY Y=>fw)
theorem Jp{H:Type}{ns:List Str}{vs:List H}(hl:vs.length=ns.length):ns.filter (λn=>((ns.zip vs).lookup n).isNone)=[] :=by
 rw[List.filter_eq_nil_iff];intro n hn
 induction ns generalizing vs with
 |nil=>cases hn
 |cons m ns ih=>
  induction vs with
  |nil=>cases hl
  |cons v vs=>
   refine ah zx (ah jR ?_)
   cases hb:n==m with
   |true=>simp
   |false=>
    rcases aR.mp hn with rfl|hn
    ·simp at hb
    ·exact ih (fO hl) hn
theorem sq_:seqItems? Value.none=(pure none:Sem (Option (Array aa))):=rfl
theorem pb_{H β:Type}(a:H)(f:H->Sem β):(pure a >>= f)=f a:=rfl
theorem QS{H β:Type}(b:β)(f:H->β->Sem (ForInStep β)):(forIn ([] :List H) b f:Sem β)=pure b:=rfl
theorem Y5{H β:Type}(f:H->β):qA f [] =[] :=rfl
theorem Y6{H:Type}(l:List H): [] ++l=l:=rfl
theorem gd_{H:Type}(d:H):(none:Option H).getD d=d:=rfl
theorem tl_{H:Type}:(#[] :Array H).toList=[] :=rfl
theorem ln_{H:Type}:([] :List H).length=0:=rfl
theorem abD{H:Type}:(none:Option H).isNone=true:=rfl
theorem abE{H:Type}(p:H->Bool):List.filter p [] =[] :=rfl
theorem CQ{fd:FuncData}{ns:List Str}{vals:List aa}(h1:fd.params.posonlyargs=[])(h2:fd.params.args.map (·.arg)=ns)(h3:fd.params.kwonlyargs=[])(h4:fd.params.vararg=none)(h5:fd.params.kwarg=none)(h6:fd.defaults=.none)(hl:vals.length=ns.length)(nd:ns.Nodup):bindArgs fd ⟨vals,[]⟩=pure (ns.zip vals):=by
 obtain⟨nm,qn,⟨po,ar,va,ko,kd,ka,df⟩,bd,sc,gl,cl,dfs,kds,dc,pm,an,cd,ct,bi⟩:=fd;have e:po=[] /\ko=[] /\va=none/\ka=none/\dfs=.none/\ar.map (·.arg)=ns:=⟨h1,h3,h4,h5,h6,h2⟩;clear h1 h2 h3 h4 h5 h6;obtain⟨rfl,rfl,rfl,rfl,rfl,rfl⟩:=e;dsimp only[bindArgs,sq_,Y5,Y6,QS,pb_,gd_,tl_,ln_,abD,abE];refine(if_neg λh=>?_).trans ((if_neg λh=>?_).trans ?_)
 ·rw[qo] at h;exact absurd (of_decide_eq_true h) (Nat.not_lt_of_le (lP hl))
 ·rw[List.drop_nil,ln_,Nat.sub_zero,lE,Jp hl] at h;exact absurd h nT
 ·rw[List.drop_nil,List.zip_nil_right,cM];exact congrArg (pure (f:=Sem)) (Jo hl nd)
structure Uk(X:Cx)(f:Nat)(nm:Nm)(ns:List Str)(body:List PySem.Stmt):Prop where
 obj:∃o fd,X.base.get? (X.nk f)=some o/\o.data=.func fd/\X.base.CodeRec fd.code fd.qualname/\fd.body=.stmts body/\fd.closure=[] /\fd.params.posonlyargs=[] /\fd.params.args.map (·.arg)=ns/\
  fd.params.kwonlyargs=[] /\fd.params.vararg=none/\fd.params.kwarg=none/\fd.defaults=.none/\fd.scope.names=nm/\fd.scope.isCoroutine=false/\fd.scope.isGenerator=false/\fd.scope.kind=.function/\
  fd.globals=mainGlobals/\fd.builtins=builtinsNs
 nd:ns.Nodup
 ok:∀x∈ns,bz x=true/\(nm.lookup x=some .local∨nm.lookup x=some .cell)
 keys:(nm.map (·.1)).Nodup
 Ul:∀p∈nm,p.2≠ .free
def sq(X:Cx)(n:Nat)(f:Nat)(g:Kc->V->Mm->RE):Prop:=∀K,KS X n K->∀l B x ao,g K l B=.ok x ao->Ok ao->Ok B/\
 ∀A N M s us,Rq (n+1) A->Rd X N M s B->Vl X N M s l us->codeAny (model X.prog X.w) A (.call (.ref (X.nk f)) ⟨us,[]⟩) (λr s'=>match r with|.ok (.ret v)=>Pe X N M s x ao v s'|.ok _=>False|.error e=>E0 e s') s
section
variable{X:Cx}{n:Nat}{nm Nr:Nm}{A:aM}{F N fp:List ag}{M aK az ρ₀:List Lc}{s s' ru aw s₀:aj}{v w x:V}{u u' it:aa}{B ao μ₁:Mm}{env nc:PySem.Env}{E eR:Env}{G:Gt}{h h':ay}{Z Z':List ag}{prog:Program}{wd:aY}{acW:aa->aj->Prop}{t:Tg}{c a:C}{K:Kc}
theorem v5:∀(names:Nm)(k:Nat)(acc:List (Str×ag)),(∀x c,(x,c)∈cellsFrom k names acc->(x,c)∈acc∨(x,oh)∈names)/\(((names.map (·.1))++acc.map (·.1)).Nodup->((cellsFrom k names acc).map (·.1)).Nodup)/\(∀p∈acc,p∈cellsFrom k names acc)/\(∀x,(x,oh)∈names->∃c,(x,c)∈cellsFrom k names acc):=by
 intro zr
 induction zr with
 |nil=>
  exact @λk acc=>(ib (λx c h=>.inl h) (λh=>h) (λp h=>h) (λx h=>nomatch h))
 |cons zc r bN=>
  obtain⟨y,j⟩:=zc
  exact @λk acc=>by
   unfold cellsFrom
   split
   ·rename_i hj;have hj:j=.cell:=by simpa using hj
    subst hj;refine mG (bN (k+1) ((y,k)::acc)) λh1 h2 h3 h4=>?_;refine(ib (λx c h=>?_) (λh=>h2 ?_) (λp h=>h3 p (aP _ h)) (λx h=>?_))
    ·rcases h1 x c h with h|h
     ·rcases aR.mp h with h|h
      ·(injection h with g1 g2;subst g1;subst g2);exact .inr aW
      ·exact .inl h
     ·exact .inr (aP _ h)
    ·show(qA (·.1) r++y::qA (·.1) acc).Nodup;exact(List.perm_middle.nodup_iff).mpr h
    ·rcases aR.mp h with h|h
     ·(injection h with g1;subst g1);exact⟨k,h3 _ aW⟩
     ·exact h4 x h
   ·rename_i hj;refine mG (bN k acc) λh1 h2 h3 h4=>?_;refine(ib (λx c h=>?_) (λh=>h2 ((gW.mp h).2)) h3 (λx h=>?_))
    ·rcases h1 x c h with h|h
     ·exact .inl h
     ·exact .inr (aP _ h)
    ·rcases aR.mp h with h|h
     ·(injection h with g1 g2;subst g1;subst g2);exact absurd rfl hj
     ·exact h4 x h
theorem yt{H:Type}{x:Str}{c:H}:∀{l:List (Str×H)},(l.map (·.1)).Nodup->(x,c)∈l->l.lookup x=some c
 |(y,d)::l,nd,h=>by
  rw[dB,gW] at nd;refine ah jR ?_
  rcases aR.mp h with h|h
  ·(injection h with g1 g2;subst g1;subst g2);simp
  ·have:(x==y)=false:=beq_eq_false_iff_ne.mpr λe=>nd.1 (e▸dC.mpr (aQ _ h rfl));refine ah this ?_;exact yt nd.2 h
theorem rC{H:Type}{x:Str}{c:H}:∀{l:List (Str×H)},l.lookup x=some c->(x,c)∈l:=by
 intro zr
 induction zr with
 |nil=>
  exact @λh=>by(injection h)
 |cons zc l bN=>
  obtain⟨y,d⟩:=zc
  exact @λh=>by
   rw[jR] at h;refine cBool (x==y) (λhb=>?_) (λhb=>?_);rotate_left
   ·replace h:=hb▸h;refine Af h ?_;refine ah (eq_of_beq hb) ?_;exact aW
   ·replace h:=hb▸h;exact aP _ (bN h)
theorem Nx{ps:List (Nat×V)}{xs:List (Str×aa)}(z:Pz X h Z M env ps xs):∀{E:Env}{m cm:Str->Option aa},
  (∀x v,bz x=true->a8 E (idOf x)=.ok v->(env.kindOf x=some .local->∃u,m x=some u/\VR X h Z M v u)/\(env.kindOf x=some .cell->∃u,cm x=some u/\VR X h Z M v u))->
  ∀x v,bz x=true->a8 (putAll ps E) (idOf x)=.ok v->(env.kindOf x=some .local->∃u,bindL env.kindOf xs m x=some u/\VR X h Z M v u)/\(env.kindOf x=some .cell->∃u,bindC env.kindOf xs cm x=some u/\VR X h Z M v u):=by
 induction z with
 |nil=>intro E m cm h0;exact h0
 | @cons p q ps xs p1 p2 p3 p4 _ ih=>
  intro E m cm h0;obtain⟨y,w⟩:=q;refine ih (E:=eS E p.1 p.2) λx v hx hl=>?_
  by_cases hxy:x=y
  ·subst hxy;rw[p1,bf] at hl;refine DS hl ?_;exact⟨λhk=>⟨w,by refine ah (if_pos hk) ?_;simp,p4⟩,λhk=>⟨w,by refine ah (if_neg (by rw[hk];intro e;cases e)) ?_;simp,p4⟩⟩
  ·replace hl:=(aG _ _ _ _ (λq=>hxy (idOf_inj p2 hx q).symm))▸(p1▸hl);refine aD (h0 x v hx hl) λh1 h2=>?_;refine⟨λhk=>?_,λhk=>?_⟩
   ·refine aL (h1 hk) λu e r=>?_;refine(aQ u ?_ r)
    split
    ·show(if x=y then some w else m x)=_;refine ah (if_neg hxy) ?_;exact e
    ·exact e
   ·refine aL (h2 hk) λu e r=>?_;refine(aQ u ?_ r)
    split
    ·exact e
    ·show(if x=y then some w else cm x)=_;refine ah (if_neg hxy) ?_;exact e
theorem Jq(ok:mO X){f:Nat}{ns:List Str}{body:List PySem.Stmt}{b:CS}(fo:Uk X f nm ns body)(hb:Sq X n nm body b):sq X n f (aq ⟨ns.map idOf,b⟩):=λK hK l B x ao e o=>by
 have e:DP b K (u6 (ns.map idOf) l .nil) B=.ok x ao:=e;refine VS (u6 (ns.map idOf) l .nil) (λhz=>?_) (λε₁ hz=>?_)
 ·replace e:=hz▸e;exact absurd e nE
 replace e:=hz▸e;have e:Mf (b K ε₁ B)=.ok x ao:=e;refine c_ (yn hz) λz1 z2 z3=>?_
 have ob:qa (b K ε₁ B):=by
  cases hr:b K ε₁ B with
  |dw e' m=>replace e:=hr▸e;refine W8 e ?_;exact o
  |ret v' m=>replace e:=hr▸e;refine W8 e ?_;exact o
  |_=>replace e:=hr▸e;exact absurd e nE
 refine aD (hb K hK ε₁ B ob) λo0 g=>?_;refine⟨o0,λA N M s us rq rd vl=>?_⟩;refine WR fo.obj λob1 fd ho hd vo Y7 abF p1 p2 p3 p4 p5 p6 Y8 hco Jr=>?_;refine ve vo λcd co cvs ct c1 c2 c3 c4=>?_;clear vo;refine mG Jr λabG hk hgl hbl=>?_;clear Jr;have hlen:us.length=ns.length:=by rw[←vl.len,z2,bx]
 have abH:s.heap.NoLimit:=by refine aL ok.Xz λmc h1 h2=>?_;exact aQ mc (h1.keeps rd.base) h2
 have hkd:∀p∈ns.zip us,fd.scope.names.lookup p.1=some .local∨(fd.scope.names.lookup p.1=some .cell/\((cellsFrom (s.heap.objs.size+1) fd.scope.names []).lookup p.1).isSome=true):=λp hp=>by
  rcases(fo.ok p.1 (List.of_mem_zip hp).1).2 with q|q
  ·exact .inl (by refine ah Y8 ?_;exact q)
  ·refine .inr ⟨by refine ah Y8 ?_;exact q,?_⟩;refine eQ λkk=>?_;refine mG (v5 nm (s.heap.objs.size+1) []) λk1 k2 Y k4=>?_;refine bc (k4 _ (rC q)) λc hc=>?_;refine kk ?_;refine ah Y8 (ah (yt (k2 (by rw[nW,cM];exact fo.keys)) hc) ?_);rfl
 refine codeAny_call_cells (by have:=rq.2.2;omega) (rd.base _ _ ho) hd abH (w3 cd co cvs ct c1 (rd.base _ _ c2) c3 c4) Y7 (CQ p1 p2 p3 p4 p5 p6 hlen fo.nd) abF hkd (λaw ic=>?_) hco abG hk
 generalize hE:callEnvC fd s.heap.objs.size (X.nk f)=env at ic ⊢
 have Js:env.cells=cellsFrom (s.heap.objs.size+1) nm [] :=by refine eV hE (eV Y8 ?_);rfl
 have Y9:env.locals=s.heap.objs.size:=by refine eV hE ?_;rfl
 have hsc:env.scope=fd.scope:=by refine eV hE ?_;rfl
 have v7:env.scope.names=nm:=by refine ah hsc ?_;exact Y8
 refine mG (v5 nm (s.heap.objs.size+1) []) λk1 k2 Y k4=>?_;have k2:=k2 (by rw[nW,cM];exact fo.keys);have Qn:∀{y c},(y,c)∈env.cells->env.cells.lookup y=some c:=λ{y c} m=>yt (by refine ah Js ?_;exact k2) m
 have fresh:∀b∈own env,s.heap.get? b=none:=λb m=>by
  have hle:s.heap.objs.size≤b:=by
   rcases aR.mp m with q|m
   ·refine ah q (ah Y9 ?_);exact bT _
   ·refine aL (dC.mp m) λUm hm q=>?_;obtain⟨y,c⟩:=Um
    have:=ic.above y c hm;replace this:=Y9▸this;refine eV q ?_;exact jX this
  refine kZ (s.heap.get? b) (λe=>?_) (λo' e=>?_)
  ·rfl
  ·exact absurd (iE e) (iB.mpr hle)
 have live:∀b∈own env,∃o,aw.heap.get? b=some o:=λb m=>by
  rcases aR.mp m with q|m
  ·refine Mi ic.toInCall.ns λo' Y Y z Y=>?_;exact⟨o',by refine ah q ?_;exact z⟩
  ·refine aL (dC.mp m) λyu hm q=>?_;obtain⟨y,c⟩:=yu;refine aL (ic.cell y c (Qn hm)) λo' z Y=>?_;exact⟨o',by refine eV q ?_;exact z⟩
 have keep:=ic.toInCall.keep;have cj:R0 X B.bk (own env++N) M aw.heap:=R0.add rd keep fresh live
 have fe:Fe (own env++N) env:={
  fn:=by refine ah hsc ?_;exact hk
  gl:=by refine eV hE ?_;exact hgl
  bl:=by refine eV hE ?_;exact hbl
  loc:=a0 _ aW
  cell:=λy c m=>⟨a0 _ (aP _ (dC.mpr (aQ _ m rfl))),uj (ic.above y c m)⟩
  XR:=λy z c h1 h2=>name_of_addr ic.apart (rC h1) (rC h2)
  P_:=λy hy=>by
   have hy:env.scope.names.lookup y=some .cell:=hy;replace hy:=v7▸hy;refine bc (k4 y (rC hy)) λc hc=>?_;exact⟨c,Qn (by refine ah Js ?_;exact hc)⟩}
 have P:eK (N++foot M) M s.heap ((own env++N)++foot M) M aw.heap:=oF keep fresh
 have pz:Pz X aw.heap ((own env++N)++foot M) M env ((ns.map idOf).zip (vL l)) (ns.zip us):=Pz.of (VL.mono P _ vl) (by rw[z2,bx]) λy hy=>⟨(fo.ok y hy).1,by
  rcases(fo.ok y hy).2 with q|q
  ·exact .inl (by show env.scope.names.lookup y=_;refine ah v7 ?_;exact q)
  ·exact .inr (by show env.scope.names.lookup y=_;refine ah v7 ?_;exact q)⟩
 have bs:=Nx (m:=λY=>none) (cm:=λY=>none) pz (E:=.nil) λy v Y hl=>by exact absurd hl nO
 have fu:Rn X env ε₁ (own env++N) M aw.heap:=by
  rw[z1];refine⟨(aQ _ ic.toInCall.ns (λy v hy hl hk=>(bs y v hy hl).1 hk)),λy c hc=>⟨_,ic.cell y c hc⟩,λy v hy hl hk=>?_⟩
  rcases hk with hk|hk
  ·refine eQ λkk=>?_;refine aL ((bs y v hy hl).2 hk) λu hu qu=>?_;refine bc (fe.P_ y hk) λc hc=>?_;refine kk ?_
   have:=ic.cell y c hc;rw[hu] at this;exact dy c u hc this qu
  ·have hk:env.scope.names.lookup y=some .free:=hk;rw[v7] at hk;exact absurd rfl (fo.Ul _ (rC hk))
 have rm:Rm n (A.deeper env):=⟨rq.1,by have:=rq.2.1;show A.units+3+60+40 * n<cLine;lia,by have:=rq.2.2;show A.depth+1+10+6 * n<recursionLimit;omega⟩;refine Mg ic.toInCall.same λhs Jt e1=>?_;have sub:∀b∈N,b∈own env++N:=λb m=>bD _ m
 have fr1:∀{b},aw.heap.get? b=none->s.heap.get? b=none:=λ{b} this=>by
  refine kZ (s.heap.get? b) (λe=>?_) (λo' e=>?_)
  ·rfl
  ·rw[keep b o' e] at this;(injection this)
 have fin:∀{aK:List Lc}{s':aj}{v:V}{u:aa}{m:Mm},Gs (own env) M aw aK s'->R0 X m.bk (own env++N) aK s'.heap->VR X s'.heap ((own env++N)++foot aK) aK v u->Pe X N M s v m u s':=λ{aK s' v u m} g r q=>
  (bS aK ⟨λb o n e=>g.keep b o n (λq=>by rw[fresh b q] at e;(injection e)) (keep b o e),λb m n=>fr1 (g.fresh b m n),g.pre,g.gens.trans (by rw[e1]),g.os.trans (by rw[e1])⟩ (r.less sub) (VR.mono (mh sub) v q))
 refine aA (g env (A.deeper env) (own env++N) M aw v7 rm fe cj fu) (λfl s' p=>?_) λY Y e=>e.elim
 cases hr:b K ε₁ B with
 |dw e' m=>
  rw[hr] at e p;refine DQ e ?_
  induction fl<;>first|exact p.elim|skip
  refine bQ p λaK g' mx Y=>?_;clear p;exact fin g' mx (v:=.none) rfl
 |ret v' m=>
  rw[hr] at e p;refine DQ e ?_
  induction fl<;>first|exact p.elim|skip
  refine bQ p λaK g' mx q'=>?_;clear p;exact fin g' mx q'
 |_=>rw[hr] at e;exact absurd e nE
theorem KS.table{t:Tr (Kc->V->Mm->RE)}(h:∀n f,sq X n f (Tr.get (λY Y Y=>RE.no) t f)):∀n,KS X n (kJ t n):=by
 intro zr
 induction zr with
 |zero=>
  exactλf l B x ao e o=>by exact absurd e nE
 |succ n bN=>
  exactλf l B x ao e o=>h n f (kJ t n) (bN) l B x ao e o
end
section
variable{X:Cx}{n:Nat}{nm Nr:Nm}{A:aM}{F N fp:List ag}{M aK az ρ₀:List Lc}{s s' ru aw s₀:aj}{v w x:V}{u u' it:aa}{B ao μ₁:Mm}{env nc:PySem.Env}{E eR:Env}{G:Gt}{h h':ay}{Z Z':List ag}{prog:Program}{wd:aY}{acW:aa->aj->Prop}{t:Tg}{c a b d:C}{K:Kc}
theorem const_int{i:Int}{k:Nat}{pos:Pos}:Es X n nm (.Constant (.int i) k pos) (cC (.int i)):=IM λenv A N M s Q Y Y Y Y hq=>uC (hq _ _ ⟨_,rfl⟩)
theorem Gi{i:Str}{k:Nat}{pos:Pos}:Es X n nm (.Constant (.str i) k pos) (cC (.str i.cps.toList)):=IM λenv A N M s Q Y Y Y Y hq=>wpAny_Constant_str (hq _ _ ⟨_,rfl⟩)
theorem CR{i:Bool}{k:Nat}{pos:Pos}:Es X n nm (.Constant (.bool i) k pos) (cC (.bool i)):=IM λenv A N M s Q Y Y Y Y hq=>wpAny_Constant_bool (hq _ _ rfl)
theorem const_none{k:Nat}{pos:Pos}:Es X n nm (.Constant .none k pos) (cC .none):=IM λenv A N M s Q Y Y Y Y hq=>wpAny_Constant_none (hq _ _ rfl)
theorem Un{body:List PySem.Stmt}{ac0:ExceptHandler}{hs:List ExceptHandler}{pos:Pos}{b:CS}(hb:Sq X n nm body b):Ss X n nm (.Try body (ac0::hs) [] [] pos) (B_ b):=λK hK E B o=>by
 have o:qa (b K E B):=o;refine aD (hb K hK E B o) λo0 g=>?_;refine⟨o0,λenv A N M s hn rm f rd rn=>wpAny_Try_except (aA (g env A N M s hn rm f rd rn) (λfl aw p=>?_) λY Y e=>e.elim)⟩
 induction fl<;>first|exact p|exact qO p
theorem Ny(i8:(X.base.get? sysModules).isSome=true){pos:Pos}:Es X n nm (.Dict [] [] pos) (FO B5):=λK hK E B x ao e o=>by
 have e:Q9 .nil B=.ok x ao:=e;refine eQ λkk=>?_;refine aD (En e) λBU Y=>?_;refine c_ (fQ BU) λhx st ob=>?_;refine kk ?_;refine⟨by show AllP B.nj;refine eV ob ?_;exact o,λenv A N M s hn rm f rd rn=>wpAny_Dict_empty ?_⟩;refine Pe.new (p:=.one s.heap.objs.size) rd BU (All.push _) (λh=>nomatch h) (λa m=>?_) (by simp[Lc.foot]) ?_
 ·simp only[Lc.foot,aV] at m;refine ah m ?_;exact bG _
 ·exact bS _ rfl (tD rd i8 (bG s.heap)) (.inl (vm [] (uO (knd:=strKind X.prog X.w) s.heap) trivial (λt u e=>by(injection e)) rfl))
theorem EH{o1 o2:CmpOp}{r1 r2:PySem.Expr}(h:fB r2=true):lastMarks [o1,o2] [r1,r2] =false:=by simp[lastMarks,mQ h]
theorem Ju{o1 o2:xg}{l r1 r2:PySem.Expr}(ha:Es X n nm l a)(hb:Es X n nm r1 b)(hd:Es X n nm r2 d)(hK:KS X n K)(e:mZ o1 o2 a b d K E B=.ok x ao)(o:Ok ao):Ok B/\∃v w t μ₁ aE dp,a K E B=.ok v μ₁/\b K E μ₁=.ok w aE/\fy o1 v w aE=.ok t dp/\Ok μ₁/\Ok aE/\Ok dp/\
  (t=false/\x=.bool false/\ao=dp∨t=true/\∃z gM t',d K E dp=.ok z gM/\Ok gM/\fy o2 w z gM=.ok t' ao/\x=.bool t'):=by
 refine eQ λkk=>?_;refine a6 (a7 e) λv μ₁ h1 e=>?_;refine a6 (a7 e) λw aE h2 e=>?_;refine a6 (rt e) λt dp h3 e=>?_;refine kk ?_
 have fin:Ok dp/\(t=false/\x=.bool false/\ao=dp∨t=true/\∃z gM t',d K E dp=.ok z gM/\Ok gM/\fy o2 w z gM=.ok t' ao/\x=.bool t'):=by
  induction t with
  |false=>refine W8 e ?_;exact⟨o,.inl (bL rfl rfl rfl)⟩
  |true=>
   refine eQ λkk=>?_;refine a6 (a7 (show(cw (d K E dp) λw' B=>u_ o2 w w' B)=.ok x ao from e)) λz gM h4 e=>?_;refine aL (oG e) λt' h5 hx=>?_;refine kk ?_;have o4:=(g9 (X:=X) t' ao h5 o).1;exact⟨(hd K hK E dp z gM h4 o4).1,.inr ⟨rfl,z,gM,t',h4,o4,h5,hx⟩⟩
 have V1:=(g9 (X:=X) t dp h3 fin.1).1;have V2:=(hb K hK E μ₁ w aE h2 V1).1;exact⟨(ha K hK E B v μ₁ h1 V2).1,v,w,t,μ₁,aE,dp,h1,h2,h3,V2,V1,fin.1,fin.2⟩
theorem Nz{o1 o2:xg}{l r1 r2:PySem.Expr}{pos:Pos}(ha:Es X n nm l a)(hb:Es X n nm r1 b)(hd:Es X n nm r2 d)(hp:fB r2=true):Es X n nm (.Compare l [PX o1,PX o2] [r1,r2] pos) (mZ o1 o2 a b d):=λK hK E B x ao e o=>by
 obtain⟨o0,v,w,t,μ₁,aE,dp,h1,h2,h3,ok1,ok2,Y',fin⟩:=Ju ha hb hd hK e o;refine⟨o0,λenv A N M s hn rm f rd rn=>Compare_chain (aA ((ha K hK E B v μ₁ h1 ok1).2 env A N M s hn rm f rd rn) (λu aw pD=>?_) λY Y e=>e) (EH hp)⟩;refine bQ pD λaz k1 cj q1=>?_;clear pD;have fu:=rn.gw f rd k1;refine chain_link (aA ((hb K hK E μ₁ w aE h2 ok2).2 env A N az aw hn rm f cj fu) (λu2 s₂ vP=>?_) λY Y e=>e);refine bQ vP λaN k2 eh q2=>?_;clear vP;have gP:=fu.gw f cj k2;refine(g9 (X:=X) t dp h3 Y').2.2 A N aN s₂ u u2 _ rm.rl eh (VR.mono (k2.hS (N:=N)) v q1) q2 λkk=>iT ?_;have st3:=(g9 (X:=X) t dp h3 Y').2.1;have kA:R0 X dp.bk N aN s₂.heap:=by refine ah st3 ?_;exact eh
 have Y_:Gw aN s₂ aN {s₂ with toks:=kk}:=Gw.tok kk
 rcases fin with⟨rfl,rfl,rfl⟩|⟨rfl,z,gM,t',h4,ok4,h5,rfl⟩
 ·exact bS aN ((k1.trans k2).trans Y_) kA rfl
 ·refine ah (if_pos rfl) ?_;refine chain_last (aA ((hd K hK E dp z gM h4 ok4).2 env A N aN {s₂ with toks:=kk} hn rm f kA gP) (λu3 cR SF=>?_) λY Y e=>e);refine bQ SF λcI k3 Hg q3=>?_;clear SF;have g3:=((k1.trans k2).trans Y_).trans k3;exact(g9 (X:=X) t' ao h5 o).2.2 A N cI cR u2 u3 _ rm.rl Hg (VR.mono (k3.hS (N:=N)) w q2) q3 λk'=>Pe.trans g3 (Pe.same (v:=.bool t') (u:=.bool t') Hg (g9 (X:=X) t' ao h5 o).2.1 rfl rfl)
theorem NA{o1 o2:xg}{l r1 r2:PySem.Expr}{pos:Pos}(ha:Es X n nm l a)(hb:Es X n nm r1 b)(hd:Es X n nm r2 d)(hp:fB r2=true):Ts X n nm (.Compare l [PX o1,PX o2] [r1,r2] pos) (mZ o1 o2 a b d):=λK hK E B tt ao e o=>by
 refine a6 (pd e) λx μx e hx=>?_
 have hxb:∃y,x=.bool y:=by
  refine a6 (a7 e) λv Y Y e=>?_;refine a6 (a7 e) λw Y Y e=>?_;refine a6 (rt e) λt Y Y e=>?_
  induction t with
  |false=>refine DQ e ?_;exact⟨_,rfl⟩
  |true=>
   refine a6 (a7 (show(cw (d K E _) λw' B=>u_ o2 w w' B)=.ok x μx from e)) λz Y Y e=>?_;refine aL (oG e) λt' Y hx=>?_;exact⟨t',hx⟩
 refine bc hxb λy vE=>?_;clear hxb;subst vE;revert o;refine iRB hx ?_;intro o;obtain⟨o0,v,w,t,μ₁,aE,dp,h1,h2,h3,ok1,ok2,Y',fin⟩:=Ju ha hb hd hK e o;refine⟨o0,λenv A N M s hn rm f rd rn=>isTrue_chain (aA ((ha K hK E B v μ₁ h1 ok1).2 env A N M s hn rm f rd rn) (λu aw X8=>?_) λY Y e=>e) (EH hp)⟩;refine bQ X8 λaz k1 cj q1=>?_;clear X8;have fu:=rn.gw f rd k1;refine test_link (aA ((hb K hK E μ₁ w aE h2 ok2).2 env A N az aw hn rm f cj fu) (λu2 s₂ X9=>?_) λY Y e=>e);refine bQ X9 λaN k2 eh q2=>?_;clear X9;have gP:=fu.gw f cj k2;refine(g9 (X:=X) t dp h3 Y').2.2 A N aN s₂ u u2 _ rm.rl eh (VR.mono (k2.hS (N:=N)) v q1) q2 λkk=>iT ?_;have st3:=(g9 (X:=X) t dp h3 Y').2.1;have kA:R0 X dp.bk N aN s₂.heap:=by refine ah st3 ?_;exact eh
 have Y_:Gw aN s₂ aN {s₂ with toks:=kk}:=Gw.tok kk
 rcases fin with⟨rfl,hy,rfl⟩|⟨rfl,z,gM,t',h4,ok4,h5,hy⟩
 ·cases hy
  exact⟨rfl,aN,(k1.trans k2).trans Y_,kA⟩
 ·cases hy
  refine ah (if_pos rfl) ?_;refine test_last (aA ((hd K hK E dp z gM h4 ok4).2 env A N aN {s₂ with toks:=kk} hn rm f kA gP) (λu3 cR X_=>?_) λY Y e=>e);refine bQ X_ λcI k3 Hg q3=>?_;clear X_;have g3:=((k1.trans k2).trans Y_).trans k3;exact(g9 (X:=X) _ _ h5 o).2.2 A N cI cR u2 u3 _ rm.rl Hg (VR.mono (k3.hS (N:=N)) w q2) q3 λk'=>iT ⟨rfl,cI,g3.trans (Gw.tok k'),by refine ah ((g9 (X:=X) _ _ h5 o).2.1) ?_;exact Hg⟩
end
set_option backward.match.sparseCases false
noncomputable section
noncomputable def ob{H β:Type}(o:Option H)(f:H->Option β):Option β:=@Option.rec H (λY=>Option β) none f o
noncomputable def oe{β:Type}(d:Option β)(b:Bool)(f:b=true->Option β):Option β:=@Bool.rec (λx=>(x=true->Option β)->Option β) (λY=>d) (λf=>f rfl) b f
noncomputable def og{β:Type}(b:Bool)(f:b=true->Option β):Option β:=oe none b f
theorem a2{a b:Bool}(h:(a&&b)=true):a=true/\b=true:=dK.mp h
theorem nt{b:Bool}(h:(!b)=true):b=false:=by induction b<;>first|rfl|exact absurd h nT
noncomputable def V6(o:Operator):Option {b:hV // o=BS b}:=match o with|.Add=>some ⟨.add,rfl⟩|.Sub=>some ⟨.sub,rfl⟩|.Mult=>some ⟨.mul,rfl⟩|.FloorDiv=>some ⟨.fdiv,rfl⟩|.Mod=>some ⟨.mod,rfl⟩|.LShift=>some ⟨.shl,rfl⟩|.RShift=>some ⟨.shr,rfl⟩|.BitAnd=>some ⟨.and,rfl⟩|.BitOr=>some ⟨.or,rfl⟩|_=>none
noncomputable def V7{H:Type}(o:CmpOp)(k:(b:xg)->PX b=o->H):H:=match o with|.Eq=>k .eq rfl|.NotEq=>k .ne rfl|.Lt=>k .lt rfl|.LtE=>k .le rfl|.Gt=>k .gt rfl|.GtE=>k .ge rfl|.In=>k .BO rfl|.NotIn=>k .nin rfl|.Is=>k .is_ rfl|.IsNot=>k .isn rfl
noncomputable def mtI(x:Str)(l:List Mt):Option {m:Mt // x=XH m}:=@List.rec Mt (λY=>Option {m:Mt // x=XH m}) none (λm Y r=>oe r (XH m==x) λh=>some ⟨m,(eq_of_beq h).symm⟩) l
noncomputable def okV(x:Str):Bool:=bz x&&(!(x==("__debug__":Str))&& !(x==("__classdict__":Str)))
noncomputable def Uo(nm:Nm)(x:Str):Bool:=nm.lookup x==some .local||nm.lookup x==some .cell
theorem EI{nm:Nm}{x:Str}(h:Uo nm x=true):nm.lookup x=some .local∨nm.lookup x=some .cell:=(ly.mp h).imp eq_of_beq eq_of_beq
noncomputable def Up(nm:Nm)(x:Str):Bool:=bz x&&Uo nm x
theorem mS{nm:Nm}{x:Str}(h:Up nm x=true):bz x=true/\(nm.lookup x=some .local∨nm.lookup x=some .cell):=⟨(a2 h).1,EI (a2 h).2⟩
noncomputable def Uq(nm:Nm)(x:Str):Bool:=bz x&&nm.lookup x==some .local
theorem ph{nm:Nm}{x:Str}(h:Uq nm x=true):bz x=true/\nm.lookup x=some .local:=⟨(a2 h).1,eq_of_beq (a2 h).2⟩
noncomputable def vOV(o:OV):Option {v:V // o=.ok v}:=match o with|.ok v=>some ⟨v,rfl⟩|.no=>none
noncomputable def Jv(l:List Nat):Bool:=@List.rec Nat (λY=>Bool) true (λa l r=>!(z5 a l)&&r) l
theorem Gj{l:List Nat}(h:Jv l=true):l.Nodup:=by
 induction l with
 |nil=>exact jw
 |cons a l ih=>exact gW.mpr ⟨of_decide_eq_false (kM a l▸nt (a2 h).1),ih (a2 h).2⟩
noncomputable def Jw(nm:Nm)(sc:Scope)(ts:List Nat):Bool:=
 (sc.kind== .function)&&sc.names.all λp=>!(p.2== .cell)&&((!(p.2== .local)||(sc.names.lookup p.1==some .local&&(!(bz p.1)||z5 (idOf p.1) ts)))&&(!(p.2== .free)||nm.lookup p.1==some .cell))
theorem im{a b:Bool}(h:(!a||b)=true)(ha:a=true):b=true:=by subst ha;exact h
theorem A7{nm:Nm}{sc:Scope}{ts:List Nat}(h:Jw nm sc ts=true):oO nm sc ts:=by
 have q:=λp hp=>a2 (c9.mp (a2 h).2 p hp)
 exact⟨eq_of_beq (a2 h).1,λp hp e=>nT ((nt (q p hp).1).symm.trans (beq_iff_eq.mpr e)),λp hp e=>eq_of_beq (a2 (im (a2 (q p hp).2).1 (beq_iff_eq.mpr e))).1,λp hp e=>eq_of_beq (im (a2 (q p hp).2).2 (beq_iff_eq.mpr e)),
  λp hp e o=>of_decide_eq_true (kM _ _▸im (a2 (im (a2 (q p hp).2).1 (beq_iff_eq.mpr e))).2 o)⟩
noncomputable def Jx(sc:Scope):List Nat:=(sc.names.filter λp=>p.2== .local).map λp=>idOf p.1
noncomputable def nmI(es:List PySem.Expr):Option {xs:List (Str×Pos) // es=xw xs}:=@List.rec PySem.Expr (λes=>Option {xs:List (Str×Pos) // es=xw xs}) (some ⟨[],rfl⟩) (λe es r=>match e with|.Name x p=>ob r λr=>some ⟨(x,p)::r.1,congrArg _ r.2⟩|_=>none) es
section
variable{X:Cx}{n:Nat}{nm:Nm}{G:Gt}{a:C}{st:PySem.Stmt}{e t it:PySem.Expr}
noncomputable abbrev Ec(X:Cx)(n:Nat)(nm:Nm)(e:PySem.Expr):Type:=Option {c:C // Es X n nm e c}
noncomputable abbrev Eb(X:Cx)(n:Nat)(nm:Nm)(e:PySem.Expr):Type:=Option {c:C // Es X n nm e c/\Ts X n nm e c}
noncomputable abbrev EL(X:Cx)(n:Nat)(nm:Nm)(es:List PySem.Expr):Type:=Option {c:C // El X n nm es c}
noncomputable abbrev Sc(X:Cx)(n:Nat)(nm:Nm)(st:PySem.Stmt):Type:=Option {c:CS // Ss X n nm st c}
noncomputable abbrev TT(X:Cx)(nm:Nm)(e:PySem.Expr)(P:Prop):Type:=Option {t:Tg // Tq X nm e t/\P}
variable(f:∀e,Eb X n nm e)
noncomputable def cL(es:List PySem.Expr):EL X n nm es:=@List.rec PySem.Expr (λes=>EL X n nm es) (some ⟨ck,Sj⟩) (λe es r=>og (fB e) λhp=>ob (f e) λa=>ob r λr=>some ⟨aH a.1 r.1,MX a.2.1 r.2 hp⟩) es
noncomputable def cD:∀(ks:List (Option PySem.Expr))(vs:List PySem.Expr),Option {c:C // Dl X n nm ks vs c}
 | [],[] =>some ⟨B5,rfl⟩
 |some k::ks,v::vs=>ob (f k) λa=>ob (f v) λb=>ob (cD ks vs) λr=>some ⟨DG a.1 b.1 r.1,a.1,b.1,r.1,rfl,a.2.1,b.2.1,r.2⟩
 |_,_=>none
noncomputable def cJ(b0:Bool)(pos:Pos):∀es:List PySem.Expr,Eb X n nm (.BoolOp (IQ b0) es pos)
 | [] =>none
 | [x] =>ob (f x) λa=>some ⟨a.1,SH a.2.1,SG a.2.2⟩
 |x::y::es=>ob (f x) λa=>ob (cJ b0 pos (y::es)) λr=>some ⟨cJn b0 a.1 r.1,X6 a.2.1 r.2.1,X7 a.2.2 r.2.2⟩
noncomputable def cT(nm:Nm)(e:PySem.Expr):TT X nm e True:=match e with
 |.Name y p=>og (Up nm y) λh=>some ⟨iX (idOf y),Jf (mS h).1 (mS h).2,trivial⟩
 |.Tuple es k p=>ob (nmI es) λxs=>og ((xs.1.map (·.1)).all (Up nm)) λh=>some ⟨gK (xs.1.map λp=>idOf p.1),by obtain⟨xs,rfl⟩:=xs;exact EC λy hy=>mS (c9.mp h y hy),trivial⟩
 |_=>none
noncomputable def cTl(nm:Nm)(e:PySem.Expr):TT X nm e (AW nm e):=match e with
 |.Name y p=>og (Uq nm y) λh=>some ⟨iX (idOf y),Jf (ph h).1 (.inl (ph h).2),(ph h).2⟩
 |.Tuple es k p=>ob (nmI es) λxs=>og ((xs.1.map (·.1)).all (Uq nm)) λh=>some ⟨gK (xs.1.map λp=>idOf p.1),by obtain⟨xs,rfl⟩:=xs;exact EC λy hy=>⟨(ph (c9.mp h y hy)).1,.inl (ph (c9.mp h y hy)).2⟩,xs.1,xs.2,λy hy=>(ph (c9.mp h y hy)).2⟩
 |_=>none
variable(ok:mO X)(g:k9 X G)(i8:(X.base.get? sysModules).isSome=true)
include g
noncomputable def gN(x:Str)(p:Pos):Option {v:V // Gv X nm (.Name x p) v}:=og (okV x) λh=>og (nm.lookup x==some .globalImplicit) λhk=>ob (vOV (G.gl (idOf x))) λv=>some ⟨v.1,SY g (a2 h).1 v.2 (nt (a2 (a2 h).2).1) (eq_of_beq hk)⟩
noncomputable def cN(x:Str)(p:Pos):Ec X n nm (.Name x p):=og (okV x) λh=>oe (oe (ob (gN g x p) λv=>some ⟨cC v.1,v.2.es⟩) (nm.lookup x==some .free) λhk=>some ⟨cV (idOf x),X4 (a2 h).1 (nt (a2 (a2 h).2).1) (nt (a2 (a2 h).2).2) (.inr (.inr (eq_of_beq hk)))⟩) (Uo nm x) λhk=>some ⟨cV (idOf x),X4 (a2 h).1 (nt (a2 (a2 h).2).1) (nt (a2 (a2 h).2).2) ((EI hk).imp id .inl)⟩
include ok
noncomputable def Ur(es:List PySem.Expr)(l:{c:C // El X n nm es c})(hp:fK es=true)(pos:Pos)(fn:PySem.Expr):Ec X n nm (.Call fn es [] pos):=match fn with
 |.Name id p=>(match gN g id p with
  |some ⟨.fn k,hv⟩=>some ⟨rZ k l.1,Yb g hv l.2 hp⟩
  |some ⟨.blt b,hv⟩=>og (!(b==2)) λh2=>some ⟨jE b l.1,S' ok g (λe=>nT ((nt h2).symm.trans (beq_iff_eq.mpr e))) hv l.2 hp⟩
  |some ⟨.cls c,hv⟩=>some ⟨HF c (G.Ya c) l.1,Th ok g hv l.2 hp⟩
  |some _=>none
  |none=>ob (f (.Name id p)) λc=>some ⟨HG c.1 l.1,MY g c.2.1 l.2 hp⟩)
 |.Attribute o y apos=>og (S_ o&&(a9 es.length 30&&(apos.endLine==pos.line))) λh=>ob (f o) λc=>
  oe (og (bz y) λh3=>some ⟨pK (idOf y) (G.LL (idOf y)) c.1 l.1,M1 ok g h3 c.2.1 l.2 (a2 h).1 hp (cF.mp (a2 (a2 h).2).1) (a2 (a2 h).2).2⟩) (G.LL (idOf y)).isEmpty λY=>
   ob (mtI y [.append,.extend,.index,.join,.find,.get,.split]) λm=>some ⟨FN m.1 c.1 l.1,by obtain⟨m,rfl⟩:=m;exact Yc c.2.1 l.2 (a2 h).1 hp (cF.mp (a2 (a2 h).2).1) (a2 (a2 h).2).2⟩
 |_=>none
omit ok g
noncomputable def abI{b:PySem.Expr}(c:{c:C // Es X n nm b c})(i:PySem.Expr)(pos:Pos):Ec X n nm (.Subscript b i pos):=match i with
 |.Slice none none none p=>some ⟨cSl c.1,X' c.2⟩
 |.Slice none (some h) none p=>ob (f h) λx=>some ⟨HI c.1 x.1,SK c.2 x.2.1⟩
 |.Slice (some l) none none p=>ob (f l) λx=>some ⟨Ma c.1 x.1,SJ c.2 x.2.1⟩
 |.Slice (some l) (some h) none p=>ob (f l) λx=>ob (f h) λy=>some ⟨vb c.1 x.1 y.1,SM c.2 x.2.1 y.2.1⟩
 |.Slice none none (some (.UnaryOp .USub (.Constant (.int i) k p1) p2)) p=>og (i==1) λh=>some ⟨Q8 c.1,by refine ah (eq_of_beq h) ?_;exact SN c.2⟩
 |i=>ob (f i) λx=>some ⟨h_ c.1 x.1,SI c.2 x.2.1⟩
noncomputable def cBo(l:PySem.Expr)(op:Operator)(r:PySem.Expr)(pos:Pos):Ec X n nm (.BinOp l op r pos):=ob (V6 op) λo=>ob (f l) λx=>ob (f r) λy=>some ⟨et o.1 x.1 y.1,by obtain⟨o,rfl⟩:=o;exact Sk x.2.1 y.2.1⟩
noncomputable def Za(l:PySem.Expr)(op:Operator)(r:PySem.Expr)(pos:Pos):Ec X n nm (.BinOp l op r pos):=match l,op,r with
 |.List es p,.Mult,.Constant (.int (.ofNat k)) kk p'=>og (a9 0 k&&a9 k 10000) λh=>ob (cL f es) λx=>some ⟨Q' x.1 k,Ti x.2 (cF.mp (a2 h).1) (cF.mp (a2 h).2)⟩
 |l,op,r=>cBo f l op r pos
noncomputable def vB2(v:V):Option (PLift (v=.blt 2)):=match v with|.blt b=>og (b==2) λh=>some ⟨congrArg _ (eq_of_beq h)⟩|_=>none
noncomputable def It(X:Cx)(n:Nat)(nm:Nm)(t it:PySem.Expr)(a:C):Prop:=(Es X n nm it a/\fB it=true)∨∃es k tp id p x cp l,t=.Tuple es k tp/\it=.Call (.Name id p) [x] [] cp/\a=jE 2 l/\Gv X nm (.Name id p) (.blt 2)/\El X n nm [x] l/\fK [x] =true
noncomputable def cI0(t it:PySem.Expr):Option {a:C // It X n nm t it a}:=og (fB it) λh=>ob (f it) λa=>some ⟨a.1,.inl ⟨a.2.1,h⟩⟩
include g
noncomputable def cIt(t it:PySem.Expr):Option {a:C // It X n nm t it a}:=match t,it with
 |.Tuple es k tp,.Call (.Name id p) [x] [] cp=>(match ob (gN (nm:=nm) g id p) λv=>ob (vB2 v.1) λh=>some (PLift.up (h.1▸v.2:Gv X nm (.Name id p) (.blt 2))) with
  |some h=>og (fK [x]) λhp=>ob (cL f [x]) λl=>some ⟨jE 2 l.1,.inr ⟨es,k,tp,id,p,x,cp,l.1,rfl,rfl,rfl,h.1,l.2,hp⟩⟩
  |none=>cI0 f _ _)
 |t,it=>cI0 f t it
theorem It.comp{c elt:_}{sc:Scope}{pos:Pos}{ts:List Nat}{tg:Tg}(h:It X n nm t it a)(k:oO nm sc ts)(ht:Tq X (kj nm sc.names) t tg)(hl:AW (kj nm sc.names) t)(hx:Es X n (kj nm sc.names) elt c):Es X n nm (.ListComp elt [⟨t,it,[],0⟩] sc pos) (j7 ts c tg a):=by
 rcases h with h|⟨es,k',tp,id,p,x,cp,l,rfl,rfl,rfl,h1,h2,h3⟩
 ·exact Nv k h.1 h.2 ht hl hx
 ·exact Jn g k h1 h2 h3 ht hl hx
theorem It.loop{bd:List PySem.Stmt}{b:CS}{pos:Pos}{tg:Tg}(h:It X n nm t it a)(ht:Tq X nm t tg)(hb:Sq X n nm bd b):Ss X n nm (.For t it bd [] pos) (xS tg a b):=by
 rcases h with h|⟨es,k',tp,id,p,x,cp,l,rfl,rfl,rfl,h1,h2,h3⟩
 ·exact T_ h.1 h.2 ht hb
 ·exact Nn g h1 h2 h3 ht hb
omit g
noncomputable def cCm(l:PySem.Expr)(os:List CmpOp)(rs:List PySem.Expr)(pos:Pos):Eb X n nm (.Compare l os rs pos):=match os,rs with
 | [o],[r] =>V7 o λq hq=>og (fB r) λh=>ob (f l) λx=>ob (f r) λy=>some ⟨gd q x.1 y.1,by subst hq;exact⟨Sm x.2.1 y.2.1 h,Sn x.2.1 y.2.1 h⟩⟩
 | [o,o'],[r,r'] =>V7 o λq hq=>V7 o' λq' hq'=>og (fB r') λh=>ob (f l) λx=>ob (f r) λy=>ob (f r') λz=>some ⟨mZ q q' x.1 y.1 z.1,by subst hq hq';exact⟨Nz x.2.1 y.2.1 z.2.1 h,NA x.2.1 y.2.1 z.2.1 h⟩⟩
 |_,_=>none
noncomputable def abJ(k:Const)(kk:Nat)(pos:Pos):Ec X n nm (.Constant k kk pos):=match k with
 |.int i=>some ⟨cC (.int i),const_int⟩
 |.str i=>some ⟨cC (.str i.cps.toList),Gi⟩
 |.bool i=>some ⟨cC (.bool i),CR⟩
 |.none=>some ⟨cC .none,const_none⟩
 |_=>none
noncomputable def pl(he:∀env whole,isTrue e env whole=(do let v←whole;standAt e.pos;holding [v] (truthy v)))(o:Ec X n nm e):Eb X n nm e:=ob o λc=>some ⟨c.1,c.2,Ts.plain c.2 he⟩
include g ok i8
noncomputable def Zb(F:∀nm e,Eb X n nm e)(nm:Nm)(e:PySem.Expr):Eb X n nm e:=match e with
 |.Constant k kk pos=>pl (λY Y=>rfl) (abJ k kk pos)
 |.Name x pos=>pl (λY Y=>rfl) (cN g x pos)
 |.BinOp l op r pos=>pl (λY Y=>rfl) (Za (F nm) l op r pos)
 |.UnaryOp .USub e pos=>pl (λY Y=>rfl) (ob (F nm e) λa=>some ⟨L_ a.1,So a.2.1⟩)
 |.UnaryOp .Not e pos=>ob (F nm e) λa=>some ⟨xR a.1,Sw a.2.1,Sy a.2.2⟩
 |.BoolOp .Or es pos=>cJ (F nm) true pos es
 |.BoolOp .And es pos=>cJ (F nm) false pos es
 |.IfExp t a b pos=>ob (F nm t) λx=>ob (F nm a) λy=>ob (F nm b) λz=>some ⟨w0 x.1 y.1 z.1,SA x.2.2 y.2.1 z.2.1,SD x.2.2 y.2.2 z.2.2⟩
 |.Compare l os rs pos=>cCm (F nm) l os rs pos
 |.Subscript a i pos=>pl (λY Y=>rfl) (ob (F nm a) λx=>abI (F nm) ⟨x.1,x.2.1⟩ i pos)
 |.Tuple es k pos=>pl (λY Y=>rfl) (ob (cL (F nm) es) λl=>some ⟨pV l.1,SQ l.2⟩)
 |.List es pos=>pl (λY Y=>rfl) (ob (cL (F nm) es) λl=>some ⟨B6 l.1,SV l.2⟩)
 |.Dict [] [] pos=>pl (λY Y=>rfl) (some ⟨FO B5,Ny i8⟩)
 |.Dict (k::ks) vs pos=>pl (λY Y=>rfl) (og (bB (k::ks).length 15||(bB 35 (k::ks).length&&bB (k::ks).length 49)) λh=>ob (cD (F nm) (k::ks) vs) λl=>some ⟨FO l.1,TC i8 l.2 (List.cons_ne_nil _ _) h⟩)
 |.ListComp elt [⟨t,it,[],0⟩] sc pos=>pl (λY Y=>rfl) (og (Jw nm sc (Jx sc)) λh=>ob (cTl (kj nm sc.names) t) λq=>ob (F (kj nm sc.names) elt) λc=>ob (cIt (F nm) g t it) λa=>some ⟨j7 (Jx sc) c.1 q.1 a.1,a.2.comp g (A7 h) q.2.1 q.2.2 c.2.1⟩)
 |.Attribute o y pos=>pl (λY Y=>rfl) (og (S_ o&&(bz y&&G.zh (idOf y))) λh=>ob (F nm o) λc=>some ⟨dZ c.1 (idOf y),MZ ok g c.2.1 (a2 h).1 (a2 (a2 h).2).1 (a2 (a2 h).2).2⟩)
 |.Call fn es [] pos=>pl (λY Y=>rfl) (og (fK es) λh=>ob (cL (F nm) es) λl=>Ur (F nm) ok g es l h pos fn)
 |_=>none
noncomputable def cE(k:Nat):∀nm e,Eb X n nm e:=@Nat.rec (λY=>∀nm e,Eb X n nm e) (λY Y=>none) (λY r=>Zb ok g i8 r) k
omit g ok i8
noncomputable def os(o:Sc X n nm st):{c:CS // Ss X n nm st c}:=@Option.rec _ (λY=>{c:CS // Ss X n nm st c}) ⟨pX,yi⟩ (λc=>c) o
noncomputable def cQ(F:∀st,{c:CS // Ss X n nm st c})(l:List PySem.Stmt):{c:CS // Sq X n nm l c}:=@List.rec PySem.Stmt (λl=>{c:CS // Sq X n nm l c}) ⟨fm,I8⟩ (λs Y r=>⟨bI (F s).1 r.1,Ew (F s).2 r.2⟩) l
include g ok
noncomputable def cAs(e:PySem.Expr)(hc:k_ e=false)(pos:Pos)(t:PySem.Expr):Sc X n nm (.Assign [t] e pos):=match t with
 |.Name y _=>og (Up nm y) λh=>ob (f e) λa=>some ⟨m_ (idOf y) a.1,TF a.2.1 hc (mS h).1 (mS h).2⟩
 |.Attribute o y _=>og (bz y&&G.zh (idOf y)) λh=>ob (f e) λa=>ob (f o) λc=>some ⟨Ac c.1 (idOf y) a.1,Nc ok g c.2.1 a.2.1 hc (a2 h).1 (a2 h).2⟩
 |.Subscript o i _=>ob (f e) λa=>ob (f o) λc=>ob (f i) λd=>some ⟨sV c.1 d.1 a.1,Nf c.2.1 d.2.1 a.2.1 hc⟩
 |.Tuple es _ _=>og (TZ e) λhs=>ob (nmI es) λxs=>og ((xs.1.map (·.1)).all (Up nm)&&Jv (xs.1.map λp=>idOf p.1)) λh=>ob (f e) λa=>some ⟨w1 (gK (xs.1.map λp=>idOf p.1)) a.1,by obtain⟨xs,rfl⟩:=xs;exact T3 a.2.1 hc hs (Gj (a2 h).2) λy hy=>mS (c9.mp (a2 h).1 y hy)⟩
 |_=>none
noncomputable def cAg(op:Operator)(e:PySem.Expr)(pos:Pos)(t:PySem.Expr):Sc X n nm (.AugAssign t op e pos):=match t with
 |.Name y _=>og (Up nm y&& !(y==("__classdict__":Str))) λh=>ob (V6 op) λo=>ob (f e) λa=>some ⟨Ad (idOf y) o.1 a.1,by obtain⟨o,rfl⟩:=o;exact TK a.2.1 (mS (a2 h).1).1 (nt (a2 h).2) (mS (a2 h).1).2⟩
 |.Attribute b y _=>og (bz y&&G.zh (idOf y)) λh=>ob (V6 op) λo=>ob (f e) λa=>ob (f b) λc=>some ⟨vc c.1 (idOf y) o.1 a.1,by obtain⟨o,rfl⟩:=o;exact Nd ok g c.2.1 a.2.1 (a2 h).1 (a2 h).2⟩
 |_=>none
omit g ok
variable(acW:∀nm e,Eb X n nm e)(F:∀st,{c:CS // Ss X n nm st c})
noncomputable def cAc(y:Str)(py:Pos)(elt t it:PySem.Expr)(sc:Scope)(p pos:Pos):Sc X n nm (.Assign [.Name y py] (.ListComp elt [⟨t,it,[],0⟩] sc p) pos):=
 og (bz y&&((nm.lookup y==some .local)&&((py.line==p.line)&& !(sc.names.any λp=>p.1==y&&(p.2== .local||p.2== .cell))))) λh=>og (fB it&&Jw nm sc (Jx sc)) λh'=>ob (cTl (kj nm sc.names) t) λq=>ob (acW (kj nm sc.names) elt) λc=>ob (acW nm it) λa=>some ⟨m_ (idOf y) (j7 (Jx sc) c.1 q.1 a.1),Nw (A7 (a2 h').2) a.2.1 (a2 h').1 q.2.1 q.2.2 c.2.1 (a2 h).1 (eq_of_beq (a2 (a2 h).2).1) (a2 (a2 (a2 h).2).2).1 (nt (a2 (a2 (a2 h).2).2).2)⟩
include g ok
noncomputable def cSs(st:PySem.Stmt):{c:CS // Ss X n nm st c}:=match st with
 |.Assign [.Name y py] (.ListComp elt [⟨t,it,[],0⟩] sc p) pos=>os (cAc acW y py elt t it sc p pos)
 |.Assign [t] e pos=>os (og (!(k_ e)) λh=>cAs (acW nm) ok g e (nt h) pos t)
 |.AugAssign t op e pos=>os (cAg (acW nm) ok g op e pos t)
 |.Return none pos=>⟨vd (cC .none),M9⟩
 |.Return (some e) pos=>os (ob (acW nm e) λa=>some ⟨vd a.1,TG a.2.1⟩)
 |.Expr e pos=>os (og (!(k_ e)) λh=>ob (acW nm e) λa=>some ⟨r6 a.1,TH a.2.1 (nt h)⟩)
 |.If t b1 b2 pos=>os (ob (acW nm t) λc=>some ⟨B8 c.1 (cQ F b1).1 (cQ F b2).1,YK c.2.2 (cQ F b1).2 (cQ F b2).2⟩)
 |.While t b [] pos=>os (ob (acW nm t) λc=>some ⟨B' c.1 (cQ F b).1,T4 c.2.2 (cQ F b).2⟩)
 |.For t it b [] pos=>os (ob (cT nm t) λq=>ob (cIt (acW nm) g t it) λa=>some ⟨xS q.1 a.1 (cQ F b).1,a.2.loop g q.2.1 (cQ F b).2⟩)
 |.Try b (h::hs) [] [] pos=>⟨B_ (cQ F b).1,Un (cQ F b).2⟩
 |.Pass pos=>⟨λY e B=>RS.dw e B,M_⟩
 |.Continue pos=>⟨DO,Na⟩
 |.Break pos=>⟨Ra,TJ⟩
 |st=>⟨pX,yi⟩
noncomputable def cS(k:Nat):∀st,{c:CS // Ss X n nm st c}:=@Nat.rec (λY=>∀st,{c:CS // Ss X n nm st c}) (λY=>⟨pX,yi⟩) (λY r=>cSs ok g acW r) k
include i8
noncomputable def cB(l:List PySem.Stmt):{c:CS // Sq X n nm l c}:=cQ (cS ok g (cE ok g i8 30) 30) l
end
end
section
variable{X:Cx}{n:Nat}{nm Nr:Nm}{A:aM}{F N fp:List ag}{M aK az ρ₀ aN:List Lc}{s s' ru aw s₀:aj}{v w x:V}{u u' it:aa}{B ao μ₁:Mm}{env nc:PySem.Env}{E eR:Env}{G:Gt}{h h':ay}{Z Z':List ag}{K:Kc}{f:V->OV}
noncomputable def Fz(X:Cx)(h:ay)(Z:List ag)(M:List Lc)(Z':List ag)(aK:List Lc)(f:V->OV):Prop:=∀v w u,f v=.ok w->VR X h Z M v u->VR X h Z' aK w u
theorem yv{a b:OV}{k:V->V->V}(e:dN a b k=.ok w):∃x y,a=.ok x/\b=.ok y/\w=k x y:=by
 induction a with
 |no=>cases e
 |ok x=>induction b with
  |no=>cases e
  |ok y=>cases e;exact dy x y rfl rfl rfl
theorem pj{k:V->V}{l:V}(e:gO f k l=.ok w):∃m,f l=.ok m/\w=k m:=by
 have e: @OV.rec (λY=>OV) OV.no (λl=>OV.ok (k l)) (f l)=.ok w:=e;refine mOV (f l) (λhf=>?_) (λm hf=>?_)
 ·replace e:=hf▸e;cases e
 ·replace e:=hf▸e;cases e;exact aQ m rfl rfl
theorem mT(hf:Fz X h Z M Z' aK f):∀{us:List aa}{l m:V},VL X h Z M l us->bZ f l=.ok m->VL X h Z' aK m us:=by
 intro zr
 induction zr with
 |nil=>
  exact @λl m q e=>by
   rcases q.shape with⟨rfl,_⟩|⟨a,t,y,ys,rfl,e',q1,q2⟩
   ·cases e;rfl
   ·cases e'
 |cons y us bN=>
  exact @λl m q e=>by
   rcases q.shape with⟨rfl,e'⟩|⟨a,t,y',ys,rfl,e',q1,q2⟩
   ·cases e'
   ·cases e'
    refine bJ (yv (show dN (f a) (bZ f t) V.cons=.ok m from e)) λx1 y1 h1 h2 oD=>?_;subst oD;exact dy _ _ rfl (hf _ _ _ h1 q1) (bN q2 h2)
theorem EJ(hf:Fz X h Z M Z' aK f):∀{es:List cG}{l m:V},VF X h Z M l es->bZ f l=.ok m->VF X h Z' aK m es:=by
 intro zr
 induction zr with
 |nil=>
  exact @λl m q e=>by
   induction l using V.casesOn with
   |nil=>cases e;rfl
   |fld k v r=>refine FT q λY Y Y Y e' Y=>?_;clear q;cases e'
   |_=>exact q.elim
 |cons y us bN=>
  exact @λl m q e=>by
   induction l using V.casesOn with
   |nil=>cases q
   |fld k v r=>
    refine vg q λx t e0 xs e' h1 h2 h3 q1 q2=>?_;clear q
    cases e'
    refine bJ (yv (show dN (f v) (bZ f r) (V.fld k)=.ok m from e)) λx1 y1 g1 g2 AA=>?_;subst AA;exact w4 x t _ _ rfl h1 h2 h3 (hf _ _ _ g1 q1) (bN q2 g2)
   |_=>exact q.elim
noncomputable def Zc(v:V):Bool:=match v with|.lst _=>true|.wX _=>true|.xf _ _=>true|.om _ _ _=>true|_=>false
theorem yw{f:V->OV}(ih:Fz X h Z M Z' aN f)(st:∀i o,v=.loc i->bk B i=.ok o->∃p,M[i]? =some p/\OR X h Z M o p/\∀a∈p.foot,a∉Z')(tp:∀a vs,a∉Z->IsTup h a vs->a∉Z'){u:aa}(old:Zc v=true->∀a,a∉Z->a∉Z')(e:FQ f B v=.ok w)(q:VR X h Z M v u):VR X h Z' aN w u:=by
 induction v using V.casesOn with
 |tup l=>
  refine aL (pj (show gO (bZ (f)) V.tup l=.ok w from e)) λm h1 ot=>?_;subst ot;refine iZ q λa vs hu na ht vl=>?_;clear q;exact mH a vs hu (tp a vs na ht) ht (mT ih vl h1)
 |lst l=>
  refine aL (pj (show gO (bZ (f)) V.lst l=.ok w from e)) λm h1 vy=>?_;subst vy;refine iZ q λa vs hu na ht vl=>?_;clear q;exact mH a vs hu (old rfl a na) ht (mT ih vl h1)
 |xf c l=>
  refine aL (pj (show gO (bZ (f)) (V.xf c) l=.ok w from e)) λm h1 ra=>?_;subst ra;refine vg q λx d es k hu n1 n2 h2 h3 vf=>?_;clear q;exact w4 x d es k hu (old rfl x n1) (old rfl d n2) h2 h3 (EJ ih vf h1)
 |om a b d=>
  cases e
  refine Rf q λa' t1 t2 t3 hu na z=>?_;clear q;exact W3 a' t1 t2 t3 hu (old rfl a' na) z
 |loc i=>
  have e:q8 (f) (bk B i)=.ok w:=e;refine cOO (bk B i) (λhs=>?_) (λo hs=>?_)
  ·replace e:=hs▸e;cases e
  ·replace e:=hs▸e;refine bQ (st i o rfl hs) λp hp ho inf=>?_;refine bQ q λp' kf Y Us=>?_;clear q;subst Us;replace kf:=hp▸kf
   cases kf
   induction o with
   |list l=>
    refine aL (pj (show gO (bZ f) V.lst l=.ok w from e)) λm h1 mP=>?_;subst mP;refine bJ ho λa vs Ut pl vl=>?_;clear ho;subst Ut;exact mH a vs rfl (inf _ (aV.mpr rfl)) pl.isList (mT ih vl h1)
   |du l=>
    refine aL (pj (show gO (bZ f) V.lst l=.ok w from e)) λm h1 p9=>?_;subst p9;refine bJ ho λa vs p7 pl vl=>?_;clear ho;subst p7;exact mH a vs rfl (inf _ (aV.mpr rfl)) pl (mT ih vl h1)
   |inst c l=>
    refine aL (pj (show gO (bZ f) (V.xf c) l=.ok w from e)) λm h1 mM=>?_;subst mM;refine ve ho λx d es k Uu h2 h3 vf=>?_;clear ho;subst Uu;exact w4 x d es k rfl (inf _ aW) (inf _ (aP _ aW)) h2 h3 (EJ ih vf h1)
   |dict l=>
    have e: @V.rec (λY=>OV) OV.no (λY=>.no) (λY=>.no) (λY=>.no) (λY Y=>.no) (λY=>.no) (λY=>.no) (λY=>.no) (λY Y=>.no) (λY Y=>.no) (λY Y=>.no) (λY Y Y=>.no) (λY Y Y=>.no) (λY Y=>.no) (λY=>.no) (λY=>.no) (λY=>.no) (λY=>.no) (.ok (.wX .nil)) (λY Y Y Y=>.no) (λY Y Y Y Y Y=>.no) (λY Y Y Y Y=>.no) l=OV.ok w:=e
    induction l using V.casesOn<;>cases e
    refine bQ ho λa Uv h1 q=>?_;clear ho;subst Uv
    rcases q with⟨gh,d,a1,a2,a3⟩|⟨gh,d,a1,a2,a3,a4⟩
    ·exact vm a rfl (inf _ (aV.mpr rfl)) h1 (.inl (bS _ d.mapOf trivial a2))
    ·exact absurd rfl a4
   |gone=>cases e
 |none=>cases e;exact q
 |bool b=>cases e;exact q
 |int b=>cases e;exact q
 |sym b=>cases e;exact q
 |rV b k=>cases e;exact q
 |str b=>cases e;exact q
 |ak b=>cases e;exact q
 |zZ b=>cases e;exact q
 |fn b=>cases e;exact q
 |cls b=>cases e;exact q
 |blt b=>cases e;exact q
 |_=>cases e
theorem Qo(r:R0 X B.bk N M h)(hz:∀a∈foot M,a∉Z'):∀i o,bk B i=.ok o->∃p,M[i]? =some p/\OR X h (N++foot M) M o p/\∀a∈p.foot,a∉Z':=λi o e=>by
 refine eQ λkk=>?_;obtain⟨st,hh,oo⟩:=B;refine aL (r.bk.get (show e_ st i=.ok o from e)) λp hp ho=>?_;refine kk ?_;exact bS p hp ho (λa m=>hz a (dO hp m))
theorem Jy(r:R0 X B.bk N M h):∀n,Fz X h (N++foot M) M N aN (cZ n B):=by
 intro zr
 induction zr with
 |zero=>
  exactλv w u e q=>by cases e
 |succ n bN=>
  exactλv w u e q=>yw (bN) (λi o Y=>Qo r r.apart i o) (λa Y n Y m=>n (a0 _ m)) (λY a n m=>n (a0 _ m)) e q
theorem yx{f:Nat}{g:Kc->V->Mm->RE}(hg:sq X n f g)(hK:KS X n K){l:V}{hs:List V}(e:g K l (Mm.mk [] hs [])=.ok v μ₁)(o:Ok μ₁){I:List O}(rq:Rq (n+1) A)(rd:R0 X I N M s.heap)
  {N':List ag} (hN:∀a∈N',a∈N++foot M) {us:List aa} (vl:VL X s.heap N' [] l us) {R:Result->aj->Prop}
  (hR:∀u s' aK,Gw [] s aK s'->R0 X μ₁.bk N' aK s'.heap->VR X s'.heap (N'++foot aK) aK v u->R (.ok (.ret u)) s'):
  codeAny (model X.prog X.w) A (.call (.ref (X.nk f)) ⟨us,[]⟩) R s:=by
 have live:∀a∈N++foot M,∃o,s.heap.get? a=some o:=λa m=>by
  rcases bp.mp m with m|m
  ·exact rd.live a m
  ·refine aL (fY.mp m) λp hp hb=>?_;exact SR.alive rd.bk p hp a hb
 have Hf:R0 X ([] :List O) N' [] s.heap:=⟨rd.base,rfl,jw,λa m=>(nomatch m),λa m=>by
  replace m:=(show N'++foot [] =N' from cM _)▸m;exact rd.low a (hN a m),λa m=>live a (hN a m)⟩
 have vl0:VL X s.heap (N'++foot []) [] l us:=by refine ah (show N'++foot [] =N' from cM _) ?_;exact vl
 refine j1 ((hg K hK l _ v μ₁ e o).2 A N' [] s us rq Hf vl0) λr s' z=>?_
 induction r with
 |error e=>exact z.elim
 |ok fl=>
 induction fl<;>first|exact z.elim|skip
 refine bQ z λaK g' r' q'=>?_;clear z;exact hR _ s' aK g' r' q'
end
set_option tactic.hygienic true
set_option backward.match.sparseCases true
noncomputable def Jz{H:Type}(d:H):List (Nat×H)->Nat->H| [],_=>d|p::l,i=>bif aC p.1 i then p.2 else Jz d l i
theorem NB{H:Type}{d:H}{i:Nat}:∀{l:List (Nat×H)},Jz d l i=d∨(i,Jz d l i)∈l:=by
 intro zr
 induction zr with
 |nil=>
  exact .inl rfl
 |cons p l bN=>
  exact by
   show(bif aC p.1 i then p.2 else Jz d l i)=d∨(i,bif aC p.1 i then p.2 else Jz d l i)∈_;refine cW (aC p.1 i) (λh=>?_) (λh=>?_);rotate_left
   ·have:=eJ h;subst this;exact .inr aW
   ·rcases bN with q|q
    ·exact .inl q
    ·exact .inr (aP _ q)
noncomputable def gvB(K:Frag)(x:Str):Option aa:=(nsIn K mainGlobals x).elim none λo=>o.elim ((nsIn K builtinsNs x).elim none id) some
noncomputable def CT{H:Type}(f:H->Bool)(o:Option H):Bool:=o.elim false f
theorem mU{H:Type}{f:H->Bool}{o:Option H}(e:CT f o=true):∃x,o=some x/\f x=true:=by
 induction o with
 |none=>exact absurd e nT
 |some x=>exact aQ x rfl e
noncomputable def vTy(f:String->Bool):aa->Bool|.type T=>f T|_=>false
theorem JA{f:String->Bool}{v:aa}(e:vTy f v=true):∃T,v=.type T/\f T=true:=by induction v<;>first|exact absurd e nT|exact aQ _ rfl e
noncomputable def dSq(f:Array aa->Bool):Data->Bool|.seq xs _=>f xs|_=>false
theorem Uw{f:Array aa->Bool}{v:Data}(e:dSq f v=true):∃xs n,v=.seq xs n/\f xs=true:=by induction v<;>first|exact absurd e nT|exact bA _ _ rfl e
noncomputable def dDi(f:Array cG->Bool):Data->Bool|.dict xs _=>f xs|_=>false
theorem Ux{f:Array cG->Bool}{v:Data}(e:dDi f v=true):∃xs n,v=.dict xs n/\f xs=true:=by induction v<;>first|exact absurd e nT|exact bA _ _ rfl e
section
variable{X:Cx}{K:Frag}{A:aM}{s:aj}{env:PySem.Env}{x:Str}{u:aa}{fa ca:Nat->ag}{da:ag}
theorem abK{acW:aa->aj->Prop}{acV:Model}(e:gvB K x=some u)(hK:K.In s.heap)(hg:env.globals=mainGlobals)(hb:env.builtins=builtinsNs){Q:aa->aj->Prop}(hq:Q u s):wpAny acV A (loadGlobal env x) Q acW s:=by
 unfold loadGlobal;refine ah hg (ah hb ?_);have e:(nsIn K mainGlobals x).elim none (λo=>o.elim ((nsIn K builtinsNs x).elim none id) some)=some u:=e;refine kY (nsIn K mainGlobals x) (λh=>?_) λo h1=>?_
 ·rw[h] at e;injection e
 rw[h1] at e
 induction o with
 |some v=>
  injection e with g1;subst g1;exact ax ((looks_nsIn hK h1).here (aX hq))
 |none=>
  have e:(nsIn K builtinsNs x).elim none id=some u:=e;refine kY (nsIn K builtinsNs x) (λh=>?_) λo2 h2=>?_
  ·rw[h] at e;injection e
  rw[h2] at e;rw[show o2=some u from e] at h2;exact ax ((looks_nsIn hK h1).here (ax ((looks_nsIn hK h2).here (aX hq))))
noncomputable def Uy(k:S)(v:aa)(b:Bool):Bool:=match v with|.str x _=>x==mkStr k&&b|_=>false
noncomputable def Zd(i:Int):aa->Bool|.int j _=>i==j|_=>false
noncomputable def Gk(f:ag->Bool):aa->Bool|.ref a=>f a|_=>false
noncomputable def Ze(K:Frag)(f:List aa->Bool)(a:ag):Bool:=CT (λo=>vTy (λT=>T== "tuple") o.cls&&dSq (λxs=>f xs.toList) o.data) (K.lookup a)
noncomputable def Uz(K:Frag)(f:List cG->Bool)(a:ag):Bool:=CT (λo=>vTy (λT=>T== "dict") o.cls&&(o.dict.isNone&&(o.slots.isEmpty&&dDi (λes=>f es.toList) o.data))) (K.lookup a)
noncomputable def JB{H:Type}(f:H->List H->Bool):List H->Bool| [] =>false|x::xs=>f x xs
theorem EK{k:S}{v:aa}{b:Bool}(e:Uy k v b=true):(∃t,v=.str (mkStr k) t)/\b=true:=by
 induction v<;>first|exact absurd e nT|exact⟨⟨_,by exact ah (eq_of_beq (dK.mp e).1) rfl⟩,(dK.mp e).2⟩
theorem NC{i:Int}{v:aa}(e:Zd i v=true):∃t,v=.int i t:=by induction v<;>first|exact absurd e nT|exact⟨_,by exact ah (eq_of_beq e) rfl⟩
theorem rD{f:ag->Bool}{v:aa}(e:Gk f v=true):∃a,v=.ref a/\f a=true:=by induction v<;>first|exact absurd e nT|exact aQ _ rfl e
theorem ND{K:Frag}{f:List aa->Bool}{a:ag}(e:Ze K f a=true):∃d items n sl,K.lookup a=some ⟨.type "tuple",d,.seq items n,sl⟩/\f items.toList=true:=by
 refine eQ λkk=>?_;refine aL (mU e) λo ho e=>aL (JA (dK.mp e).1) λT hT e1=>a6 (Uw (dK.mp e).2) λitems n hd e2=>?_;obtain⟨c,d,da,sl⟩:=o;refine kk ?_;refine abd d items n sl ?_ e2;rw[ho,show c=_ from hT,show da=_ from hd,eq_of_beq e1]
theorem NF{K:Frag}{f:List cG->Bool}{a:ag}(e:Uz K f a=true):∃es n,K.lookup a=some ⟨.type "dict",none,.dict es n, #[]⟩/\f es.toList=true:=by
 refine eQ λkk=>?_;refine aL (mU e) λo ho e=>aL (JA (dK.mp e).1) λT hT e1=>?_;have p:=dK.mp (dK.mp e).2;have q:=dK.mp p.2;refine a6 (Ux q.2) λes n hd e2=>?_;obtain⟨c,d,da,sl⟩:=o;refine kk ?_;refine bA es n ?_ e2;rw[ho,show c=_ from hT,show da=_ from hd,eq_of_beq e1,show d=none from uw.mp p.1,show sl= #[] from ny.mp q.1]
theorem A8{H:Type}{f:H->List H->Bool}{l:List H}(e:JB f l=true):∃x xs,l=x::xs/\f x xs=true:=by
 induction l using bE with
 |nil=>exact absurd e nT
 |cons x xs=>exact bA x xs rfl e
mutual
noncomputable def NG(K:Frag)(fa ca:Nat->ag)(da:ag):V->aa->Bool
 |.none,u=>u== .none
 |.bool b,u=>u== .bool b
 |.int i,u=>Zd i u
 |.str s,u=>Uy s u true
 |.fn f,u=>Gk (λa=>aC a (fa f)) u
 |.cls c,u=>Gk (λa=>aC a (ca c)) u
 |.blt b,u=>u==r8 b
 |.tup l,u=>Gk (Ze K (JC K fa ca da l)) u
 |.wX l,u=>Gk (λa=>aC a da&&(!(a==sysModules)&&(DK l&&Uz K (EM K fa ca da l) a))) u
 |_,_=>false
noncomputable def EM(K:Frag)(fa ca:Nat->ag)(da:ag):V->List cG->Bool
 |.nil,es=>es.isEmpty
 |.kv k v r,es=>V.qV false (λk=>JB (λe es=>Uy k e.key (NG K fa ca da v e.val&&EM K fa ca da r es)) es) k
 |_,_=>false
noncomputable def JC(K:Frag)(fa ca:Nat->ag)(da:ag):V->List aa->Bool
 |.nil,us=>us.isEmpty
 |.cons a r,us=>JB (λx xs=>NG K fa ca da a x&&JC K fa ca da r xs) us
 |_,_=>false
end
noncomputable def Sh(X:Cx)(v:V)(u:aa):Prop:=∀(h:ay)(Z:List ag)(M:List Lc),(∀b o,X.base.get? b=some o->h.get? b=some o)->(∀a∈Z,X.base.get? a=none)->VR X h Z M v u
noncomputable def ShL(X:Cx)(v:V)(u:List aa):Prop:=∀(h:ay)(Z:List ag)(M:List Lc),(∀b o,X.base.get? b=some o->h.get? b=some o)->(∀a∈Z,X.base.get? a=none)->VL X h Z M v u
noncomputable def ShD(X:Cx)(l:V)(es:List cG):Prop:=∀(h:ay)(Z:List ag)(M:List Lc),(∀b o,X.base.get? b=some o->h.get? b=some o)->(∀a∈Z,X.base.get? a=none)->VK X h Z M l (es.map λe=>(e.key,e.val))
noncomputable def HsD(X:Cx)(da:ag):Prop:=∀o es n,X.K.lookup da=some o->o.data=.dict es n->∀e∈es,∀x t,e.key=.str x t->e.hash=hashStr X.w x
theorem A9{w:aY}:∀{es:List cG}{ks:List (Str×aa)},Carries (strKind X.prog w) (es.map λe=>(e.key,e.val)) ks->Pairs (strKind X.prog w) es ks
 | [],[],_=>.nil
 |e::es,k::ks,h=>.cons h.1 h.2.1 (A9 h.2.2)
 | [],_::_,h=>h.elim
 |_::_,[],h=>h.elim
theorem VK.str{h:ay}{Z:List ag}{M:List Lc}{es:List cG}{l:V}(nd:DK l=true)(q:VK X h Z M l (es.map λe=>(e.key,e.val)))(e:cG)(he:e∈es):∃x t,e.key=.str x t:=by
 induction es generalizing l with
 |nil=>cases he
 |cons e0 es ih=>
  induction l using V.casesOn with
  |kv k v r=>
   refine eQ λkk=>?_;refine kX q λa b t e1 q1 q2 q3=>?_;clear q;rw[dB,zJ,Prod.mk.injEq] at e1;refine Mo nT nd λk' hk nd=>jF nT nd λY nr=>?_;subst hk;refine kk ?_
   rcases aR.mp he with rfl|he
   ·exact q1.elim λt' ht=>(Ae _ t' (e1.1.1.trans ht))
   ·exact ih (l:=r) nr (by refine ah e1.2 ?_;exact q3) he
  |nil=>(injection q)
  |_=>exact q.elim
theorem EN{Z:List ag}{a:ag}{o:Obj}(hz:∀a∈Z,X.base.get? a=none)(hb:X.base.get? a=some o):a∉Z:=λm=>nx (hz a m) hb
theorem UA(hK:X.K.In X.base)(hD:HsD X da)(v:V):(∀u,NG X.K X.nk X.r7 da v u=true->Sh X v u)/\(∀es,EM X.K X.nk X.r7 da v es=true->ShD X v es)/\∀us,JC X.K X.nk X.r7 da v us=true->ShL X v us:=by
 induction v with
 |none=>exact bL (λu e h Z M Y Y=>eq_of_beq e) (λY e=>absurd e nT) (λY e=>absurd e nT)
 |bool b=>exact bL (λu e h Z M Y Y=>eq_of_beq e) (λY e=>absurd e nT) (λY e=>absurd e nT)
 |int i=>exact bL (λu e h Z M Y Y=>NC e) (λY e=>absurd e nT) (λY e=>absurd e nT)
 |str i=>exact bL (λu e h Z M Y Y=>(EK e).1) (λY e=>absurd e nT) (λY e=>absurd e nT)
 |fn f=>exact bL (λu e h Z M Y Y=>(rD e).elim λa p=>p.1.trans (congrArg _ (eJ p.2))) (λY e=>absurd e nT) (λY e=>absurd e nT)
 |cls f=>exact bL (λu e h Z M Y Y=>(rD e).elim λa p=>p.1.trans (congrArg _ (eJ p.2))) (λY e=>absurd e nT) (λY e=>absurd e nT)
 |blt b=>exact bL (λu e h Z M Y Y=>eq_of_beq e) (λY e=>absurd e nT) (λY e=>absurd e nT)
 |tup l ih=>
  refine(bL (λu e h Z M hh hz=>?_) (λY e=>absurd e nT) (λY e=>absurd e nT));refine aL (rD e) λa mf e=>?_;subst mf;refine FT (ND e) λd items n sl hl e=>?_;exact mH a items rfl (EN hz (hK _ _ hl)) ⟨_,hh _ _ (hK _ _ hl),rfl,n,rfl⟩ (ih.2.2 items.toList e h Z M hh hz)
 |wX l ih=>
  refine(bL (λu e h Z M hh hz=>?_) (λY e=>absurd e nT) (λY e=>absurd e nT));refine aL (rD e) λa i5 e=>?_;subst i5;have e:(aC a da&&(!(a==sysModules)&&(DK l&&Uz X.K (EM X.K X.nk X.r7 da l) a)))=true:=e;simp only[cK] at e;refine a6 (NF e.2.2.2) λes n hl e4=>?_;have q:=ih.2.1 es.toList e4 h Z M hh hz;refine mG (I0 e.2.2.1 q) λcq1 cq2 cq3 cq4=>?_;have ko:KeysOf (strKind X.prog X.w) es:=λe' he=>(VK.str e.2.2.1 q e' (nv.mpr he)).elim λx p=>p.elim λt hx=>⟨x,by refine ah hx ?_;exact beq_self_eq_true x,hD _ es n (by refine eV (eJ e.1) ?_;exact hl) rfl e' he x t hx⟩;have d:h.DictOf (strKind X.prog X.w) a (Qa (es.toList.map λe=>(e.key,e.val))):=(Rg _ es n (hh _ _ (hK _ _ hl)) (bL rfl rfl rfl) rfl ko (A9 cq1) cq2);exact vm a rfl (EN hz (hK _ _ hl)) (iy _ |>.mp e.2.1) (.inl (bS _ d.mapOf (cq4 _ (oI cq2)) (λt u hu=>(cq3 t (oJ hu)).2)))
 |nil=>exact⟨λY e=>absurd e nT,λes e h Z M Y Y=>by refine ah (qB.mp e) ?_;rfl,λus e h Z M Y Y=>qB.mp e⟩
 |cons a r ia ir=>
  refine(bL (λY e=>absurd e nT) (λY e=>absurd e nT) (λus e h Z M hh hz=>?_));refine a6 (A8 e) λx xs ou e=>?_;subst ou;refine aD (dK.mp e) λRr Rt=>?_;exact dy x xs rfl (ia.1 x Rr h Z M hh hz) (ir.2.2 xs Rt h Z M hh hz)
 |kv k v r _ iv ir=>
  refine(bL (λY e=>absurd e nT) (λes e h Z M hh hz=>Mo nT e λk' hk e=>?_) (λY e=>absurd e nT));refine a6 (A8 e) λx xs vy e=>?_;subst vy;have p:=EK e;have p2:=dK.mp p.2;exact jh _ _ _ rfl (hk▸p.1) (iv.1 x.val p2.1 h Z M hh hz) (ir.2.1 xs p2.2 h Z M hh hz)
 |_=>exact bL (λY e=>absurd e nT) (λY e=>absurd e nT) (λY e=>absurd e nT)
noncomputable def JD(K:Frag)(fa ca:Nat->ag)(da:ag)(l:List (Str×V)):Bool:=l.all λp=>bz p.1&&(match gvB K p.1 with|some u=>NG K fa ca da p.2 u|none=>false)
noncomputable def EO(K:Frag)(C:ag)(x:Str):Bool:=plainGet K C x&&(hasDictIn K C&&((findIn K (.ref C) x==some none)&&((findIn K (.ref C) "__setattr__"==some (some (.builtin "object.__setattr__")))&&(plainOver K C&&(takerIn K C x==some none)))))
theorem JE{C:ag}(e:EO K C x=true):IT K C x:=by
 unfold EO at e;simp only[cK,beq_iff_eq] at e;exact⟨e.1,e.2.1,e.2.2.1,e.2.2.2.1,e.2.2.2.2.1,e.2.2.2.2.2⟩
theorem NH{G:Gt}{l:List (Str×V)}(hK:X.K.In X.base)(hD:HsD X da)(hl:∀i v,G.gl i=.ok v->∃p∈l,idOf p.1=i/\p.2=v)(hn:JD X.K X.nk X.r7 da l=true):
  ∀x v,bz x=true->G.gl (idOf x)=.ok v->(x==("__debug__":Str))=false->∀(env:PySem.Env)(A:aM)(s:aj)(Q:aa->aj->Prop),env.globals=mainGlobals->env.builtins=builtinsNs->(∀b o,X.base.get? b=some o->s.heap.get? b=some o)->
   (∀u,(∀h Z M,(∀b o,X.base.get? b=some o->h.get? b=some o)->(∀a∈Z,X.base.get? a=none)->VR X h Z M v u)->Q u s)->wpAny (model X.prog X.w) A (loadGlobal env x) Q E0 s:=by
 intro x v hx hv _ env A s Q hg hb hh hq;refine bQ (hl _ _ hv) λp hp h1 Zf=>?_;subst Zf
 have:=c9.mp hn p hp;rw[cK] at this;have hpx:=idOf_inj this.1 hx h1;subst hpx;refine aD this λY h3=>?_;clear this;refine kY (gvB X.K p.1) (λhgv=>?_) (λu hgv=>?_)
 ·replace h3:=hgv▸h3;exact absurd h3 nT
 ·replace h3:=hgv▸h3;exact abK hgv (hK.keeps hh) hg hb (hq u ((UA hK hD p.2).1 u h3))
end
set_option tactic.hygienic false
noncomputable def ae(f:Mm->RE)(I:List O)(v:V)(bK:List O):Prop:=∃hs nj,AllP nj/\∀bC o',f ⟨I,hs++bC,o'⟩=.ok v ⟨bK,bC,nj++o'⟩
noncomputable def br(f:Mm->RB)(I:List O)(v:Bool)(bK:List O):Prop:=∃hs nj,AllP nj/\∀bC o',f ⟨I,hs++bC,o'⟩=.ok v ⟨bK,bC,nj++o'⟩
noncomputable def hB:List Bool->List V:=qA V.bool
inductive Out where|dw (e:Env)|brk (e:Env)|cont (e:Env)|ret (v:V)
noncomputable def Out.at:Out->Mm->RS|.dw e=>.dw e|.brk e=>.brk e|.cont e=>.cont e|.ret v=>.ret v
noncomputable def au(f:Mm->RS)(I:List O)(r:Out)(bK:List O):Prop:=∃hs nj,AllP nj/\∀bC o',f ⟨I,hs++bC,o'⟩=r.at ⟨bK,bC,nj++o'⟩
section
variable{I σ₁ σ₂:List O}{v w x:V}{b:Bool}{a:Mm->RE}{K:Kc}{E ε₁:Env}
theorem AllP.app:∀{l m:List Prop},AllP l->AllP m->AllP (l++m):=by
 intro zr
 induction zr with
 |nil=>
  exact @λm _ h=>h
 |cons p l bN=>
  exact @λm h g=>⟨h.1,bN h.2 g⟩
theorem ae.ok:ae (RE.ok v) I v I:=(bA [] [] trivial (λY Y=>rfl))
theorem ae.and{k:V->Mm->RE}(h:ae a I v σ₁)(g:ae (k v) σ₁ w σ₂):ae (λB=>cw (a B) k) I w σ₂:=by
 refine a6 h λh1 o1 p1 e1=>?_;clear h;refine a6 g λh2 o2 p2 e2=>?_;clear g;refine(bA (h1++h2) (o2++o1) (AllP.app p2 p1) (λbC o'=>?_));show cw (a ⟨I,(h1++h2)++bC,o'⟩) k=_;rw[bH,e1,bH];exact e2 bC (o1++o')
theorem br.ok:br (RB.ok b) I b I:=(bA [] [] trivial (λY Y=>rfl))
theorem br.ask:br (ask b) I b I:=(bA [.bool b] [b=b] ⟨rfl,trivial⟩ (λY Y=>rfl))
theorem br.sure{y:Bool}:br (Mine.Internal.sure y b) I b I:=by cases y;exact br.ask;exact br.ok
theorem ae.m9{p:Bool}(h:p=true):ae (λB=>RE.ok v (Mine.Internal.m9 p B)) I v I:=(bA [] [p=true] ⟨h,trivial⟩ (λY Y=>rfl))
theorem ae.ite{c:Mm->RB}{f g:Mm->RE}(h:br c I b σ₁)(k:ae (bif b then f else g) σ₁ v σ₂):ae (λB=>xQ (c B) f g) I v σ₂:=by
 refine a6 h λh1 o1 p1 e1=>?_;clear h;refine a6 k λh2 o2 p2 e2=>?_;clear k;refine(bA (h1++h2) (o2++o1) (AllP.app p2 p1) (λbC o'=>?_));show xQ (c ⟨I,(h1++h2)++bC,o'⟩) f g=_;rw[bH,e1,bH]
 have:=e2 bC (o1++o')
 induction b<;>exact this
theorem ae.bool{c:Mm->RB}(h:br c I b σ₁):ae (λB=>u7 (c B)) I (.bool b) σ₁:=by
 refine a6 h λh1 o1 p1 e1=>?_;clear h;refine(bA h1 o1 p1 (λbC o'=>?_));show u7 (c ⟨I,h1++bC,o'⟩)=_;rw[e1];rfl
theorem br.qW(h:ae a I (.bool b) σ₁):br (λB=>kE (a B)) I b σ₁:=by
 refine a6 h λh1 o1 p1 e1=>?_;clear h;refine(bA h1 o1 p1 (λbC o'=>?_));show kE (a ⟨I,h1++bC,o'⟩)=_;rw[e1];rfl
theorem br.neg{c:Mm->RB}(h:br c I b σ₁):br (λB=>u1 (c B)) I (pT b) σ₁:=by
 refine a6 h λh1 o1 p1 e1=>?_;clear h;refine(bA h1 o1 p1 (λbC o'=>?_));show u1 (c ⟨I,h1++bC,o'⟩)=_;rw[e1];rfl
theorem ae.to{f:Mm->RE}(h:ae a I v σ₁)(e:∀B,f B=a B):ae f I v σ₁:=by
 refine a6 h λh1 o1 p1 e1=>?_;clear h;exact⟨h1,o1,p1,λbC o'=>by rw[e];exact e1 bC o'⟩
theorem au.and{k:V->Mm->RS}{r:Out}(h:ae a I v σ₁)(g:au (k v) σ₁ r σ₂):au (λB=>iY (a B) k) I r σ₂:=by
 refine a6 h λh1 o1 p1 e1=>?_;clear h;refine a6 g λh2 o2 p2 e2=>?_;clear g;refine(bA (h1++h2) (o2++o1) (AllP.app p2 p1) (λbC o'=>?_));show iY (a ⟨I,(h1++h2)++bC,o'⟩) k=_;rw[bH,e1,bH];exact e2 bC (o1++o')
theorem au.out{r:Out}:au (r.at) I r I:=(bA [] [] trivial (λY Y=>rfl))
theorem au.ite{c:Mm->RB}{f g:Mm->RS}{r:Out}(h:br c I b σ₁)(k:au (bif b then f else g) σ₁ r σ₂):au (λB=>Aa (c B) f g) I r σ₂:=by
 refine a6 h λh1 o1 p1 e1=>?_;clear h;refine a6 k λh2 o2 p2 e2=>?_;clear k;refine(bA (h1++h2) (o2++o1) (AllP.app p2 p1) (λbC o'=>?_));show Aa (c ⟨I,(h1++h2)++bC,o'⟩) f g=_;rw[bH,e1,bH]
 have:=e2 bC (o1++o')
 induction b<;>exact this
theorem au.seq{s:Mm->RS}{k:Env->Mm->RS}{r:Out}(h:au s I (.dw E) σ₁)(g:au (k E) σ₁ r σ₂):au (λB=>B9 (s B) k) I r σ₂:=by
 refine eQ λkk=>?_;refine a6 h λh1 o1 p1 e1=>?_;clear h;refine a6 g λh2 o2 p2 e2=>?_;refine kk ?_;clear g;refine(bA (h1++h2) (o2++o1) (AllP.app p2 p1) (λbC o'=>?_));show B9 (s ⟨I,(h1++h2)++bC,o'⟩) k=_;rw[bH,e1,bH];exact e2 bC (o1++o')
theorem au.iI{s:Mm->RS}{k:Env->Mm->RS}(h:au s I (.ret v) σ₁):au (λB=>B9 (s B) k) I (.ret v) σ₁:=by
 refine a6 h λh1 o1 p1 e1=>?_;clear h;refine(bA h1 o1 p1 (λbC o'=>?_));show B9 (s ⟨I,h1++bC,o'⟩) k=_;rw[e1];rfl
theorem au.loop{s:Mm->RS}{k:Env->Mm->RS}{r:Out}(h:au s I (.dw E) σ₁∨au s I (.cont E) σ₁)(g:au (k E) σ₁ r σ₂):au (λB=>j8 (s B) k) I r σ₂:=by
 rcases h with h|h<;>
 ·refine a6 h λh1 o1 p1 e1=>?_;clear h;refine a6 g λh2 o2 p2 e2=>?_;clear g;refine(bA (h1++h2) (o2++o1) (AllP.app p2 p1) (λbC o'=>?_));show j8 (s ⟨I,(h1++h2)++bC,o'⟩) k=_;rw[bH,e1,bH];exact e2 bC (o1++o')
theorem au.to{f g:Mm->RS}{r:Out}(h:au g I r σ₁)(e:∀B,f B=g B):au f I r σ₁:=by
 refine a6 h λh1 o1 p1 e1=>?_;clear h;exact⟨h1,o1,p1,λbC o'=>by rw[e];exact e1 bC o'⟩
theorem ae.call{ns:List Nat}{bd:CS}{l:V}(hz:u6 ns l .nil=.ok E)(h:au (bd K E) I (.ret v) σ₁):ae (aq ⟨ns,bd⟩ K l) I v σ₁:=by
 refine a6 h λh1 o1 p1 e1=>?_;clear h;refine(bA h1 o1 p1 (λbC o'=>?_));show DP bd K (u6 ns l .nil) _=_;refine ah hz ?_;show Mf (bd K E _)=_;rw[e1];rfl
theorem ae.eH{ns:List Nat}{bd:CS}{l:V}(hz:u6 ns l .nil=.ok E)(h:au (bd K E) I (.dw ε₁) σ₁):ae (aq ⟨ns,bd⟩ K l) I .none σ₁:=by
 refine a6 h λh1 o1 p1 e1=>?_;clear h;refine(bA h1 o1 p1 (λbC o'=>?_));show DP bd K (u6 ns l .nil) _=_;refine ah hz ?_;show Mf (bd K E _)=_;rw[e1];rfl
end
section
variable{X:Cx}{n:Nat}{N:List ag}{M aN:List Lc}{h:ay}{Z:List ag}{hs:List V}{o:List Prop}{s:aj}{K:Kc}
theorem JF:∀n,Fz X h Z M Z aN (cZ n ⟨[],hs,o⟩):=by
 intro zr
 induction zr with
 |zero=>
  exactλv w u e q=>by exact absurd e nO
 |succ n bN=>
  exactλv w u e q=>yw (bN) (λi o Y e=>by cases (show OO.no=OO.ok o from e)) (λa Y n Y=>n) (λY a n=>n) e q
end
set_option backward.match.sparseCases false
noncomputable section
def km(l:V):Prop:=bZ (cZ 8 ⟨[],[],[]⟩) l=.ok l
def jc(v w:V):Prop:=∀X h Z M u,VR X h Z M v u->VR X h Z M w u
def gF(v w:V):Prop:=∀X h Z M us,VL X h Z M v us->VL X h Z M w us
def UB(f:Mm->RE)(v:V)(bK:List O):Prop:=∃hs nj,AllP nj/\f ⟨[],hs,[]⟩=.ok v ⟨bK,[],nj⟩
def fD(g:V->Mm->RE)(l' w:V):Prop:=∃l v v' bK,gF l' l/\km l/\UB (g l) v bK/\cZ 8 ⟨bK,[],[]⟩ v=.ok v'/\jc v' w
def gm(R:V->V->Prop):Kc->V->Mm->RE:=λY l B=>@Mm.rec (λY=>RE) (λs h o=>@List.rec V (λY=>RE) RE.no (λw r Y=>RE.ok w (Mm.mk s r (cf (R l w) o))) h) B
def Zg(f:V->OV)(B:Mm)(v:V):OV:=match v with
 |.lst _=>.no|.wX _=>.no|.xf _ _=>.no|.om _ _ _=>.no|v=>FQ f B v
def JG(n:Nat)(B:Mm):V->OV:=@Nat.rec (λY=>V->OV) (λY=>OV.no) (λY ih=>Zg ih B) n
def yy(g:V->Mm->RE)(l' w:V):Prop:=∃l v v' bK,gF l' l/\km l/\UB (g l) v bK/\JG 8 ⟨bK,[],[]⟩ v=.ok v'/\jc v' w
def rE(R:V->V->Prop):Kc->V->Mm->RE:=λY l B=>@Mm.rec (λY=>RE) (λs h o=>@List.rec V (λY=>RE) RE.no (λl' r Y=>@List.rec V (λY=>RE) RE.no (λw r Y=>RE.ok w (Mm.mk s r (cf (bZ (cZ 8 ⟨s,[],[]⟩) l=.ok l'/\R l' w) o))) r) h) B
def UC(n:Nat)(f:V->OV)(B:Mm)(v:V):OV:=match v with
 |.loc i=>bif a9 i n then .ok (.loc i) else q8 f (bk B i)|v=>FQ f B v
def Gl(n:Nat)(k:Nat)(B:Mm):V->OV:=@Nat.rec (λY=>V->OV) (λY=>OV.no) (λY ih=>UC n ih B) k
def gcP(n:Nat)(v w:V)(I:List O):Prop:=Gl n 8 ⟨I,[],[]⟩ v=.ok w/\∀o∈I.take n,mI (λi=>i<n) o
def gcM(n:Nat)(v:V)(B:Mm):RE:=@Mm.rec (λY=>RE) (λs h o=>@List.rec V (λY=>RE) RE.no (λw r Y=>RE.ok w (Mm.mk (List.take n s) r (cf (gcP n v w s) o))) h) B
def gcE(n:Nat)(r:RE):RE:=@RE.rec (λY=>RE) RE.no (λv B=>gcM n v B) r
def Qp(g:Kc->V->Mm->RE):Kc->V->Mm->RE:=λK l B=>gcE (kB B.bk) (g K l B)
noncomputable def gn{H:Type}(t:Tr H)(f:Nat)(o:H):Tr H:=@Tr.rec H (λY=>Nat->Tr H) (λY=>.nil) (λv l r il ir n=>@Nat.rec (λY=>Tr H) (.node o l r) (λm Y=>@Bool.rec (λY=>Tr H) (.node v l (ir (n5 m 2))) (.node v (il (n5 m 2)) r) (aC (Nat.mod m 2) 0)) n) t f
noncomputable def dW(t:Tr (Kc->V->Mm->RE))(K:Kc)(n:Nat):Kc:=@Nat.rec (λY=>Kc) K (λY ih f l B=>Tr.get (λY Y Y=>RE.no) t f ih l B) n
end
theorem ae.z{f:Mm->RE}{v:V}{bK:List O}(h:ae f [] v bK):UB f v bK:=by
 refine a6 h λh1 o1 p1 e1=>?_;clear h;have e1:=e1 [] [];rw[cM,cM] at e1;exact bA h1 o1 p1 e1
theorem NI{a b:String}{p:Prop}(h:Value.type a=.type b)(n:a≠b):p:=by injection h with h;exact absurd h n
section
variable{X:Cx}{n f:Nat}{N:List ag}{M aK aN:List Lc}{h:ay}{Z Z':List ag}{K:Kc}{g:Kc->V->Mm->RE}{A:aM}{s:aj}{v w:V}
theorem SR.cut{j_:Nat->Prop}(P:m4 j_ Z M h Z' aK h):∀{k:Nat}{os:List O}{ps:List Lc},(∀o∈os.take k,mI j_ o)->SR X h Z M os ps->SR X h Z' aK (os.take k) (ps.take k)
 |0,_,_,_,_=>by refine ah jQ (ah jQ ?_);rfl
 |k+1,[],_,_,r=>by subst r;rfl
 |k+1,o::os,_,c,r=>by
  refine bJ r λp qs fF r1 r2=>?_;clear r;subst fF;exact dy p (qs.take k) rfl (OR.Xc P (c o aW) (λY Y Y e=>e) r1) (SR.cut P (λo ho=>c o (aP _ ho)) r2)
theorem Zh{B:Mm}{n:Nat}(r:R0 X B.bk N M h):∀k,Fz X h (N++foot M) M (N++foot (M.take n)) (M.take n) (Gl n k B):=by
 intro zr
 induction zr with
 |zero=>
  exactλv w u e q=>by exact absurd e nO
 |succ k bN=>
  exactλv w u e q=>by
   have sub:∀a,a∈N++foot (M.take n)->a∈N++foot M:=λa m=>by
    rcases bp.mp m with m|m
    ·exact a0 _ m
    ·refine aL (fY.mp m) λp hp ha=>?_;exact bD _ (fY.mpr (aQ p (ub hp) ha))
   have go:∀{v w:V}{u:aa},(∀i,v=.loc i->n≤i)->FQ (Gl n k B) B v=.ok w->VR X h (N++foot M) M v u->VR X h (N++foot (M.take n)) (M.take n) w u:=λ{v w u} hv e q=>
    yw (bN) (λi o hi hs=>by
     refine eQ λkk=>?_;obtain⟨st,hh,oo⟩:=B;refine aL (r.bk.get (show e_ st i=.ok o from hs)) λp hp ho=>?_;refine kk ?_;refine(bS p hp ho (λa ha m=>?_))
     rcases bp.mp m with m|m
     ·exact r.apart a (dO hp ha) m
     ·refine aL (fY.mp m) λp' kf ha'=>?_;obtain⟨j,hj,e⟩:=jP kf;have hjn:j<n:=by replace hj:=gp▸hj;omega
      have h2:M[j]? =some p':=by
       have:(M.take n)[j]? =some p':=by exact ah (eZ hj) (ah e rfl)
       rwa [qC hjn] at this
      exact Cb r.nodup h2 hp (by have:=hv i hi;omega) a ha' ha) (λa Y na Y m=>na (sub a m)) (λY a na m=>na (sub a m)) e q
   have e:UC n (Gl n k B) B v=.ok w:=e
   by_cases hl:∃i,v=.loc i
   ·refine bc hl λi vS=>?_;clear hl;subst vS;have e:(bif a9 i n then OV.ok (.loc i) else q8 (Gl n k B) (bk B i))=.ok w:=e;refine cBool (a9 i n) (λhb=>?_) (λhb=>?_);rotate_left
    ·replace e:=hb▸e;refine DS e ?_;refine aL q λp hp q=>?_;exact⟨p,by refine ah (qC (cF.mp hb)) ?_;exact hp,q⟩
    ·replace e:=hb▸e;refine go (v:=.loc i) (λj hj=>?_) e q;injection hj with g1;subst g1
     exact iB.mp λz=>by replace hb:=(cF.mpr z)▸hb;exact absurd hb nF
   ·have:UC n (Gl n k B) B v=FQ (Gl n k B) B v:=by induction v using V.casesOn<;>first|rfl|exact absurd ⟨_,rfl⟩ hl
    replace e:=this▸e;exact go (λi hi=>absurd ⟨i,hi⟩ hl) e q
theorem Zi(hg:sq X n f g):sq X n f (Qp g):=λK hK l B x ao e o=>by
 have e:gcE (kB B.bk) (g K l B)=.ok x ao:=e;refine cRE (g K l B) (λhr=>?_) (λv μ₁ hr=>?_)
 ·replace e:=hr▸e;exact absurd e nE
 obtain⟨σ₁,jj,acN⟩:=μ₁;replace e:=hr▸e
 induction jj with
 |nil=>exact absurd e nE
 |cons w jj=>
 revert o;refine DQ e ?_;intro o;refine eQ λkk=>?_;refine aD o λJH o=>?_;refine aD JH λc1 c2=>?_;clear JH;refine aD (hg K hK l B _ _ hr o) λo0 r=>?_;refine kk ?_;refine⟨o0,λA N M s us rq rd vl=>j1 (r A N M s us rq rd vl) λrs s' z=>?_⟩
 induction rs with
 |error e=>exact z.elim
 |ok fl=>
 induction fl<;>first|exact z.elim|skip
 rename_i u;refine bQ z λaK g' r' q'=>?_;clear z;have hn:kB B.bk=M.length:=rd.bk.len;rw[hn] at c1 c2 ⊢
 have sub:∀a,a∈foot (aK.take M.length)->a∈foot aK:=λa m=>by
  refine aL (fY.mp m) λp hp ha=>?_;exact fY.mpr (aQ p (ub hp) ha)
 have Zj:∀a,a∈N++foot (aK.take M.length)->a∈N++foot aK:=λa m=>by
  rcases bp.mp m with m|m
  ·exact a0 _ m
  ·exact bD _ (sub a m)
 have P:m4 (λi=>i<M.length) (N++foot aK) aK s'.heap (N++foot (aK.take M.length)) (aK.take M.length) s'.heap:=
  ⟨λY Y Y e=>e,λb m n=>absurd (Zj b m) n,λi p hi e=>by refine ah (qC hi) ?_;exact e⟩
 refine(bS (aK.take M.length) ⟨g'.keep,λb m n=>g'.fresh b (sub b m) n,λi p e=>by refine ah (qC (cA.mp e).1) ?_;exact g'.pre i p e,g'.gens,g'.os⟩ ⟨r'.base,SR.cut P c2 r'.bk,?_,λa m=>r'.apart a (sub a m),λa m=>r'.low a (Zj a m),r'.live⟩ (Zh (B:=⟨σ₁,[],[]⟩) r' 8 _ _ _ c1 q'))
 have:=r'.nodup;rw[←t_ M.length aK,gL] at this;exact(iN.mp this).1
theorem CU(hg:sq X n f g)(hK:KS X n K){m:Nat}(hm:n≤m):sq X m f (gm (fD (g K))):=λK' Y l' B x ao e o=>by
 obtain⟨st,hh,ob⟩:=B
 induction hh using bE with
 |nil=>exact absurd e nE
 |cons w r=>
 revert o;refine DQ e ?_;intro o;refine eQ λkk=>?_;refine aD o λyu o=>?_;refine Mj yu λl v v' bK hl hf Qq hz hv=>?_;clear yu;refine a6 Qq λh1 o1 p1 e1=>?_;refine kk ?_;clear Qq;refine⟨o,λA N M s us rq rd vl=>?_⟩;refine yx hg hK e1 p1 ⟨rq.1,by have:=rq.2.1;omega,by have:=rq.2.2;omega⟩ rd (N':=N++foot M) (λa m=>m) (mT (JF 8) (hl _ _ _ _ _ vl) hf) λu s' aK g' r' q'=>?_;have ka:All s.heap s'.heap:=λb o e=>g'.keep b o (λm=>nomatch m) e;exact bS M (Gw.all ka g'.gens g'.os) (R0.all rd ka) (hv _ _ _ _ _ (Jy (B:=⟨bK,[],[]⟩) r' 8 _ _ _ hz q'))
theorem SR.Zk{vs:Array aa}:∀{os:List O}{ps:List Lc},SR X h Z M os ps->∀p∈ps,∀a∈p.foot,¬IsTup h a vs:=by
 intro zr
 induction zr with
 |nil=>
  exact @λ_ r p hp _ _ _=>by subst r;cases hp
 |cons o os bN=>
  exact @λ_ r p hp a ha ⟨ob,e,hc,_⟩=>by
   refine bJ r λp' qs p7 r1 r2=>?_;clear r;subst p7
   rcases aR.mp hp with rfl|hp
   ·induction o with
    |list l=>refine bJ r1 λb us mM JI Y=>?_;clear r1;subst mM;refine bc JI λn h1=>?_;clear JI;replace e:=h1▸((aV.mp ha)▸e);(injection e with g1;subst g1);exact NI hc (by decide)
    |du l=>refine bJ r1 λb us pZ JJ Y=>?_;clear r1;subst pZ;refine bQ JJ λo' h1 h2 Y=>?_;clear JJ;replace e:=h1▸((aV.mp ha)▸e);(injection e with g1;subst g1);replace h2:=hc▸h2;exact NI h2 (by decide)
    |gone=>subst r1;cases ha
    |inst c l=>
     refine ve r1 λx d es n vG h1 h2 Y=>?_;clear r1;subst vG
     rcases aR.mp ha with rfl|ha
     ·replace e:=h1▸e;(injection e with g1;subst g1);cases hc
     ·replace e:=h2▸((aV.mp ha)▸e);(injection e with g1;subst g1);exact NI hc (by decide)
    |dict l=>
     refine bQ r1 λb UD Y q=>?_;clear r1;subst UD
     rcases q with⟨gh,⟨o',es,ep,h1,h2,_⟩,_⟩|⟨gh,⟨o',es,ep,h1,h2,_⟩,_⟩<;>(replace e:=h1▸((aV.mp ha)▸e);(injection e with g1;subst g1);have:=h2.1;replace this:=hc▸this;exact NI this (by decide))
   ·exact bN r2 p hp a ha ⟨ob,e,hc,by assumption⟩
theorem Zl{B:Mm}(st:∀i o,bk B i=.ok o->∃p,M[i]? =some p/\OR X h Z M o p/\∀a∈p.foot,a∉Z')(tp:∀a vs,a∉Z->IsTup h a vs->a∉Z'):∀n,Fz X h Z M Z' aN (JG n B):=by
 intro zr
 induction zr with
 |zero=>
  exactλv w u e q=>by(injection e)
 |succ n bN=>
  exactλv w u e q=>by
   have e:Zg (JG n B) B v=.ok w:=e;refine yw (B:=B) (v:=v) (bN) (λi o Y=>st i o) tp (λhv=>?_) ?_ q
   ·induction v using V.casesOn<;>first|exact absurd hv Bool.false_ne_true|exact Hd e
   ·induction v using V.casesOn<;>first|exact e|exact Hd e
theorem JK(hg:sq X n f g)(hK:KS X n K){m:Nat}(hm:n≤m):sq X m f (rE (yy (g K))):=λK' Y l' B x ao e o=>by
 obtain⟨st,hh,ob⟩:=B
 rcases hh with _|⟨lf,_|⟨w,r⟩⟩
 ·exact absurd e nE
 ·exact absurd e nE
 revert o;refine DQ e ?_;intro o;refine eQ λkk=>?_;refine aD o λJL o=>?_;refine aD JL λhfr Qr=>?_;clear JL;refine Mj Qr λl v v' bK hl hf Zm hz hv=>?_;clear Qr;obtain⟨h1,o1,p1,e1⟩:=Zm;refine kk ?_;refine⟨o,λA N M s us rq rd vl=>?_⟩;have vf:VL X s.heap N [] lf us:=mT (Jy (B:=⟨st,[],[]⟩) rd 8) vl hfr;refine yx hg hK e1 p1 ⟨rq.1,by have:=rq.2.1;omega,by have:=rq.2.2;omega⟩ rd (N':=N) (λa m=>a0 _ m) (mT (JF 8) (hl _ _ _ _ _ vf) hf) λu s' aK g' r' q'=>?_;have ka:All s.heap s'.heap:=λb o e=>g'.keep b o (λm=>nomatch m) e;have mx:=R0.all rd ka;refine(bS M (Gw.all ka g'.gens g'.os) mx (hv _ _ _ _ _ (Zl (B:=⟨bK,[],[]⟩) (Qo (B:=⟨bK,[],[]⟩) r' λa m n=>?_) (λa vs n ht m=>?_) 8 _ _ _ hz q')))
 ·have hn:=g'.fresh a m (λm=>nomatch m)
  rcases bp.mp n with n|n
  ·refine bc (rd.live a n) λo e=>?_;replace e:=hn▸e;(injection e)
  ·refine eQ λkk=>?_;refine aL (fY.mp n) λp hp hb=>?_;refine bc (SR.alive rd.bk p hp a hb) λo e=>?_;refine kk ?_;replace e:=hn▸e;(injection e)
 ·rcases bp.mp m with m|m
  ·exact n (a0 _ m)
  ·refine aL (fY.mp m) λp hp hb=>?_;exact SR.Zk mx.bk p hp a hb ht
end
set_option backward.match.sparseCases true
section
variable{X:Cx}{f:Nat}
noncomputable def cO{H:Type}(P:Nat->H->Prop):Tr H->(Nat->Nat)->Prop
 |.nil,_=>True
 |.node v l r,φ=>P (φ 0) v/\cO P l (λm=>φ (2 * m+1))/\cO P r (λm=>φ (2 * m+2))
theorem cO.get{H:Type}{P:Nat->H->Prop}{d:H}(hd:∀n,P n d):∀{t:Tr H}{φ:Nat->Nat}(n:Nat),cO P t φ->P (φ n) (Tr.get d t n)
 |.nil,φ,n,_=>hd _
 |.node v l r,φ,0,h=>h.1
 |.node v l r,φ,n+1,h=>by
  show P (φ (n+1)) (@Bool.rec (λY=>H) (Tr.get d r (n / 2)) (Tr.get d l (n / 2)) (aC (n % 2) 0));refine cW (aC (n % 2) 0) (λhb=>?_) (λhb=>?_);rotate_left
  ·have:=eJ hb;have h1:=cO.get hd (n / 2) h.2.1;rwa [show 2 * (n / 2)+1=n+1 by omega] at h1
  ·have:n % 2≠0:=λe=>by replace hb:=e▸hb;exact absurd hb nF
   have h1:=cO.get hd (n / 2) h.2.2;rwa [show 2 * (n / 2)+2=n+1 by omega] at h1
theorem cO.set{H:Type}{P:Nat->H->Prop}{o:H}:∀{t:Tr H}{φ:Nat->Nat}(n:Nat),cO P t φ->P (φ n) o->cO P (gn t n o) φ
 |.nil,φ,n,_,_=>trivial
 |.node v l r,φ,0,h,q=>⟨q,h.2⟩
 |.node v l r,φ,n+1,h,q=>by
  show cO P (@Bool.rec (λY=>Tr H) (.node v l (gn r (n / 2) o)) (.node v (gn l (n / 2) o) r) (aC (n % 2) 0)) φ;refine cW (aC (n % 2) 0) (λhb=>?_) (λhb=>?_);rotate_left
  ·have:=eJ hb;exact bL h.1 (cO.set (n / 2) h.2.1 (by rwa [show 2 * (n / 2)+1=n+1 by omega])) h.2.2
  ·have:n % 2≠0:=λe=>by replace hb:=e▸hb;exact absurd hb nF
   exact bL h.1 h.2.1 (cO.set (n / 2) h.2.2 (by rwa [show 2 * (n / 2)+2=n+1 by omega]))
theorem Qs{n:Nat}:sq X n f (λY Y Y=>RE.no):=λK hK l B x ao e o=>by exact absurd e nE
theorem KS.over{n:Nat}{t:Tr (Kc->V->Mm->RE)}{K:Kc}(hK:KS X n K)(h:cO (λi g=>∀m,n≤m->sq X m i g) t (λn=>n)):∀k,KS X (n+k) (dW t K k):=by
 intro zr
 induction zr with
 |zero=>
  exact hK
 |succ k bN=>
  exactλf l B x ao e o=>cO.get (P:=λi g=>∀m,n≤m->sq X m i g) (d:=λY Y Y=>RE.no) (λf m Y=>Qs) f h (n+k) (iR _ _) (dW t K k) (bN) l B x ao e o
theorem KS.mono{n n':Nat}{K:Kc}(h:KS X n K)(hn:n≤n'):KS X n' K:=λf l B x ao e o=>by
 refine aD (h f l B x ao e o) λo0 g=>?_;exact⟨o0,λA N M s us rq rd vl=>g A N M s us ⟨rq.1,by have:=rq.2.1;omega,by have:=rq.2.2;omega⟩ rd vl⟩
theorem cO.imp{H:Type}{P Q:Nat->H->Prop}(k:∀i a,P i a->Q i a):∀{t:Tr H}{φ:Nat->Nat},cO P t φ->cO Q t φ
 |.nil,_,_=>trivial
 |.node _ _ _,_,h=>(bL (k _ _ h.1) (cO.imp k h.2.1) (cO.imp k h.2.2))
noncomputable def Of(X:Cx)(m f:Nat)(P:(V->Mm->RE)->Prop):Prop:=∃n g K,n≤m/\sq X n f g/\KS X n K/\P (g K)
theorem NJ{m:Nat}{R:V->V->Prop}(hR:∀l w,R l w->Of X m f λg=>fD g l w):sq X m f (gm R):=λK' Zn l' B x ao e o=>by
 obtain⟨st,hh,ob⟩:=B
 induction hh using bE with
 |nil=>exact absurd e nE
 |cons w r=>
 cases e
 refine kX (hR _ _ o.1) λn' g K hm hg hK rel=>?_;exact CU hg hK hm K' Zn l' ⟨st,x::r,ob⟩ x ⟨st,r,fD (g K) l' x::ob⟩ rfl ⟨rel,o.2⟩
theorem NK{m:Nat}{R:V->V->Prop}(hR:∀l w,R l w->Of X m f λg=>yy g l w):sq X m f (rE R):=λK' Zn l' B x ao e o=>by
 obtain⟨st,hh,ob⟩:=B
 rcases hh with _|⟨lf,_|⟨w,r⟩⟩
 ·exact absurd e nE
 ·exact absurd e nE
 cases e
 refine eQ λkk=>?_;refine aD o λvI o=>?_;refine aD vI λhfr hr=>?_;clear vI;refine kX (hR _ _ hr) λn' g K hm hg hK rel=>?_;refine kk ?_;exact JK hg hK hm K' Zn l' ⟨st,lf::x::r,ob⟩ x ⟨st,r,(bZ (cZ 8 ⟨st,[],[]⟩) l'=.ok lf/\yy (g K) lf x)::ob⟩ rfl ⟨⟨hfr,rel⟩,o⟩
end
set_option tactic.hygienic true
noncomputable section
noncomputable def dFi(f:Array aa->Bool):Data->Bool|.fields xs=>f xs|_=>false
theorem UE{f:Array aa->Bool}{v:Data}(e:dFi f v=true):∃xs,v=.fields xs/\f xs=true:=by induction v<;>first|exact absurd e nT|exact aQ _ rfl e
noncomputable def dFn(f:FuncData->Bool):Data->Bool|.func x=>f x|_=>false
theorem JM{f:FuncData->Bool}{v:Data}(e:dFn f v=true):∃x,v=.func x/\f x=true:=by induction v<;>first|exact absurd e nT|exact aQ _ rfl e
noncomputable def dCl:Data->Bool|.cls _=>true|_=>false
theorem UG{v:Data}(e:dCl v=true):∃x,v=.cls x:=by induction v<;>first|exact absurd e nT|exact⟨_,rfl⟩
noncomputable def vSt(f:Str->Bool):aa->Bool|.str x _=>f x|_=>false
theorem UH{f:Str->Bool}{v:aa}(e:vSt f v=true):∃x t,v=.str x t/\f x=true:=by induction v<;>first|exact absurd e nT|exact bA _ _ rfl e
noncomputable def Qt(K:Frag)(C:ag):Bool:=makesIn K C&&((specialIn K (.ref C) "__call__"==some (some (.builtin "type.__call__")))&&(plainGet K C ⟨#[]⟩&&CT (λo=>dCl o.data) (K.lookup C)))
noncomputable def Qu(K:Frag)(v:aa)(q:Str):Bool:=Gk (λc=>CT (λo=>dFi (λvs=>CT (λy=>vSt (λx=>x==q) y) vs[1]?) o.data) (K.lookup c)) v
noncomputable def CV(l:List Str):Bool:=@List.rec Str (λY=>Bool) true (λa l r=>!(l.contains a)&&r) l
noncomputable def abL(z:PySem.Stmt):Bool:=(MH.Internal.fArgs z).posonlyargs.isEmpty&&((MH.Internal.fArgs z).kwonlyargs.isEmpty&&((MH.Internal.fArgs z).vararg.isNone&&((MH.Internal.fArgs z).kwarg.isNone&&((!(MH.Internal.fScope z).isCoroutine)&&((!(MH.Internal.fScope z).isGenerator)&&(((MH.Internal.fScope z).kind== .function)&&
 (CV ((MH.Internal.fArgs z).args.map (·.arg))&&((((MH.Internal.fArgs z).args.map (·.arg)).all λx=>Up (MH.Internal.fScope z).names x)&&(CV ((MH.Internal.fScope z).names.map (·.1))&&(MH.Internal.fScope z).names.all λp=>!(p.2== .free))))))))))
noncomputable def UI(z:PySem.Stmt)(o:Obj):Obj:=match o.data with|.func f=>⟨.type "function",o.dict,.func (MH.Internal.fd z f.name f.qualname 3 .none .none f.doc f.pyModule f.code 0),o.slots⟩|_=>o
noncomputable def Qv(K:Frag)(p:ag×PySem.Stmt):Bool:=CT (λo=>dFn (λf=>Qu K f.code f.qualname&&abL p.2) o.data) (K.lookup p.1)
section
variable{X:Cx}{f:Nat}{z:PySem.Stmt}{a:ag}
theorem xA{l:List Str}(h:CV l=true):l.Nodup:=by
 induction l with
 |nil=>exact jw
 |cons a l ih=>exact gW.mpr ⟨λm=>nT ((iy _▸(a2 h).1:l.contains a=false).symm.trans (List.contains_iff_mem.mpr m)),ih (a2 h).2⟩
theorem JN{K:Frag}{h:ay}{v:aa}{q:Str}(hK:K.In h)(e:Qu K v q=true):h.CodeRec v q:=by
 refine aL (rD e) λc hc e=>aL (mU e) λo ho e=>aL (UE e) λvs hd e=>aL (mU e) λy hv e=>a6 (UH e) λx t hy e=>?_;subst hc hy;exact w3 c o vs t rfl (hK _ _ ho) hd (eq_of_beq e▸hv)
theorem Zo(hK:X.K.In X.base)(hl:X.K.lookup (X.nk f)=some (UI z ((X.K.lookup (X.nk f)).getD default)))(hc:Qv X.K (X.nk f,z)=true):Uk X f (MH.Internal.fScope z).names ((MH.Internal.fArgs z).args.map (·.arg)) (MH.Internal.fBody z):=by
 refine aL (mU hc) λo ho hc=>aL (JM hc) λfd hd hc=>?_
 ·obtain⟨oc,od,dat,sl⟩:=o;have ho:X.K.lookup (X.nk f)=_:=ho;replace hl:=ho▸hl;have hd:dat=.func fd:=hd;subst hd
  ·have q:=a2 hc;have hl:=iS hl;have b:=hK _ _ ho;replace b:=hl▸b;have s1:=a2 q.2;have s2:=a2 s1.2;have s3:=a2 s2.2;have s4:=a2 s3.2;have s5:=a2 s4.2;have s6:=a2 s5.2;have s7:=a2 s6.2;have s8:=a2 s7.2;have s9:=a2 s8.2;have s10:=a2 s9.2;exact⟨⟨_,_,b,rfl,JN hK q.1,rfl,rfl,qB.mp s1.1,rfl,qB.mp s2.1,uw.mp s3.1,uw.mp s4.1,rfl,rfl,iy _▸s5.1,iy _▸s6.1,eq_of_beq s7.1,rfl,rfl⟩,xA s8.1,λx hx=>mS (c9.mp s9.1 x hx),xA s10.1,λp hp hk=>nT ((show(!(p.2==NameKind.free))=false from by refine ah hk ?_;rfl).symm.trans (c9.mp s10.2 p hp))⟩
end
end
section
open MH.Internal
noncomputable section
noncomputable def UJ{H:Type}(d:H)(l:List H):Nat->H:=@List.rec H (λY=>Nat->H) (λY=>d) (λa Y r n=>@Nat.rec (λY=>H) a (λm Y=>r m) n) l
theorem EP{H:Type}{d:H}{l:List H}(h:d∈l)(i:Nat):UJ d l i∈l:=by
 have k:∀(l:List H) i,UJ d l i=d∨UJ d l i∈l:=λl=>by
  induction l with
  |nil=>exactλY=>.inl rfl
  |cons a l ih=>exactλi=>by cases i with|zero=>exact .inr aW|succ m=>exact(ih m).imp id (aP _)
 exact(k l i).elim (λe=>by rw[e];exact h) id
noncomputable def FZ:List (ag×Stmt):=[(21,st 1),(28,st 2),(35,st 3),(42,st 5),(49,st 6),(56,st 7),(63,st 8),(70,st 9),(77,st 10),(84,st 11),(91,st 12),(98,st 13),(105,st 14),(112,st 15),(119,st 16),(126,st 17),(133,st 18),(140,st 19),(147,st 20),(154,st 21),(161,st 22),(166,st 23),(173,st 24),(180,st 25),(187,st 26),(192,st 27),(199,st 28),(206,st 29),(229,mt 40 0),(254,st 42),(261,st 43),(268,st 44),(273,st 45),(280,st 46),(287,st 47),(294,st 48),(21,st 1),(308,st 50),(315,st 51),(322,st 52),(329,st 53),(336,st 54),(343,st 55),(357,mt 56 0),(364,mt 56 1),(371,mt 56 2),(378,mt 56 3),(385,mt 56 4),(392,mt 56 5),(21,st 1),(413,st 58),(21,st 1),(21,st 1),(434,st 61),(441,st 62),(455,mt 64 0),(467,st 65),(474,st 66),(481,st 67),(21,st 1),(21,st 1),(21,st 1),(21,st 1),(531,st 73),(538,st 74),(545,st 75),(552,st 76),(559,st 77),(566,st 78),(573,st 79),(580,st 80),(587,st 81),(594,st 82),(601,st 83),(608,st 84),(615,st 85),(622,st 86),(629,st 87),(636,st 88),(643,st 89),(650,st 90),(657,st 91),(664,st 92),(671,st 93),(678,st 94),(685,st 95),(692,st 96),(699,st 97),(706,st 98),(713,st 99),(720,st 100),(732,st 107),(739,st 108),(746,st 109),(753,st 110),(760,st 111),(765,st 112),(772,st 113),(779,st 114),(786,st 115),(791,st 116),(21,st 1),(831,mt 126 0),(852,mt 127 0),(21,st 1),(21,st 1),(873,mt 127 3),(880,mt 127 4),(885,mt 127 5),(21,st 1),(21,st 1),(21,st 1),(21,st 1),(920,mt 127 10),(927,mt 127 11),(934,mt 127 12),(21,st 1),(948,mt 127 14),(955,mt 127 15),(962,mt 127 16),(967,mt 127 17),(21,st 1),(988,st 128),(21,st 1),(21,st 1),(21,st 1),(1014,st 132),(1021,st 133),(1026,st 134),(1033,st 136),(21,st 1),(1038,st 137)]
noncomputable def KA:List ag:=FZ.map (·.1)++FZ.map (·.1 - 1)++[0,1,2,3,395,458,834,977,394,457,833,976,207,208,209,210,211,212,213,214,215,721,722,723,724,725,792,793,794,795,796]
noncomputable def KF(P:cg):Frag:=KA.map λa=>(a,((t18 P).get a).getD default)
noncomputable def nk(f:Nat):ag:=(UJ (21,st 1) FZ f).1
noncomputable def zA(f:Nat):Stmt:=(UJ (21,st 1) FZ f).2
noncomputable def clI:List (ag×Nat):=[(395,43),(395,43),(395,43),(458,55),(395,43),(395,43),(834,102),(977,103)]
noncomputable def r7(c:Nat):ag:=(UJ (395,43) clI c).1
noncomputable def NL(c:Nat):Nat:=(UJ (395,43) clI c).2
noncomputable def fCo:Stmt->Nat|.FunctionDef _ _ _ _ _ _ _ _ _ p=>p.col|_=>1
noncomputable def glL:List (Str×V):=(FZ.zipIdx.filter λp=>fCo p.1.2==0).map (λp=>(LU p.1.2,.fn p.2))++[("Reader",.cls 2),("AsmRow",.cls 3),("Assembly",.cls 6),("Pass",.cls 7),("len",.blt 0),("range",.blt 1),("enumerate",.blt 2),("abs",.blt 3),("str",.blt 4),("ord",.blt 5),("chr",.blt 6),("int",.blt 7),("DIGITS",(.str [48,49,50,51,52,53,54,55,56,57,65,66,67,68,69,70])),("SIGNS_OF_TWO",(.tup (.cons (.str [60,62]) (.cons (.str [60,61]) (.cons (.str [62,61]) .nil))))),("SIGNS",(.str [43,45,42,47,40,41,44,61,60,62,58,36])),("QUOTES",(.str [39,34])),("LEVELS",(.tup (.cons (.tup (.cons (.str [79,82]) (.cons (.str [88,79,82]) .nil))) (.cons (.tup (.cons (.str [65,78,68]) .nil)) (.cons (.tup (.cons (.str [69,81]) (.cons (.str [78,69]) (.cons (.str [76,84]) (.cons (.str [76,69]) (.cons (.str [71,84]) (.cons (.str [71,69]) (.cons (.str [61]) (.cons (.str [60,62]) (.cons (.str [60]) (.cons (.str [60,61]) (.cons (.str [62]) (.cons (.str [62,61]) .nil))))))))))))) (.cons (.tup (.cons (.str [43]) (.cons (.str [45]) .nil))) (.cons (.tup (.cons (.str [42]) (.cons (.str [47]) (.cons (.str [77,79,68]) (.cons (.str [83,72,76]) (.cons (.str [83,72,82]) .nil)))))) .nil))))))),("UNARY",(.tup (.cons (.str [43]) (.cons (.str [45]) (.cons (.str [78,79,84]) (.cons (.str [72,73,71,72]) (.cons (.str [76,79,87]) .nil))))))),("SAME",(.wX (.kv (.str [61]) (.str [69,81]) (.kv (.str [60,62]) (.str [78,69]) (.kv (.str [60]) (.str [76,84]) (.kv (.str [60,61]) (.str [76,69]) (.kv (.str [62]) (.str [71,84]) (.kv (.str [62,61]) (.str [71,69]) .nil)))))))),("TRUE",(.int (.ofNat 65535))),("MOST_DEPTH",(.int (.ofNat 12))),("REGISTERS",(.tup (.cons (.str [66]) (.cons (.str [67]) (.cons (.str [68]) (.cons (.str [69]) (.cons (.str [72]) (.cons (.str [76]) (.cons (.str [65]) (.cons (.str [70]) (.cons (.str [73]) (.cons (.str [82]) (.cons (.str [73,88,72]) (.cons (.str [73,88,76]) (.cons (.str [73,89,72]) (.cons (.str [73,89,76]) .nil)))))))))))))))),("PAIRS",(.tup (.cons (.str [66,67]) (.cons (.str [68,69]) (.cons (.str [72,76]) (.cons (.str [83,80]) (.cons (.str [65,70]) (.cons (.str [65,70,39]) (.cons (.str [73,88]) (.cons (.str [73,89]) .nil)))))))))),("CONDITIONS",(.tup (.cons (.str [78,90]) (.cons (.str [90]) (.cons (.str [78,67]) (.cons (.str [80,79]) (.cons (.str [80,69]) (.cons (.str [80]) (.cons (.str [77]) .nil))))))))),("IN_PARENTHESES",(.tup (.cons (.str [72,76]) (.cons (.str [66,67]) (.cons (.str [68,69]) (.cons (.str [83,80]) (.cons (.str [67]) (.cons (.str [73,88]) (.cons (.str [73,89]) .nil))))))))),("INDEXES",(.tup (.cons (.str [73,88]) (.cons (.str [73,89]) .nil)))),("MOST_ROWS",(.int (.ofNat 4000))),("OCTETS",(.tup (.cons (.str [68,66]) (.cons (.str [68,69,70,66]) (.cons (.str [68,69,70,77]) .nil))))),("WORDS",(.tup (.cons (.str [68,87]) (.cons (.str [68,69,70,87]) .nil)))),("ROOM",(.tup (.cons (.str [68,83]) (.cons (.str [68,69,70,83]) .nil)))),("AGAIN",(.tup (.cons (.str [83,69,84]) (.cons (.str [68,69,70,76]) (.cons (.str [61]) .nil))))),("FAR",(.tup (.cons (.str [74,82]) (.cons (.str [68,74,78,90]) .nil))))].map λp=>(s p.1,p.2)
noncomputable def JO:List (Str×List (Nat×Nat)):=[(s "here",[(2,44)]),(s "take",[(2,45)]),(s "whole",[(2,46)]),(s "single",[(2,47)]),(s "value",[(2,48)]),(s "worth",[(7,106)]),(s "walk",[(7,107)]),(s "step",[(7,108)]),(s "set_label",[(7,113)]),(s "plain",[(7,114)]),(s "put",[(7,115)]),(s "count",[(7,117)]),(s "octets_of",[(7,118)]),(s "order",[(7,119)]),(s "told_octets",[(7,120)])]
noncomputable def UK:List Str:=[s "at",s "changing",s "depth",s "encoder",s "entry",s "errors",s "fixed",s "is_ended",s "is_last",s "label",s "listing",s "macros",s "made",s "number",s "octets",s "row",s "rows_left",s "rows_put",s "serial",s "sizes",s "symbols",s "text",s "tokens",s "word"]
noncomputable def GT:Gt:=⟨λi=>Jz .no (glL.map λp=>(idOf p.1,OV.ok p.2)) i,NL,Jz [] (JO.map λp=>(idOf p.1,p.2)),Jz false (UK.map λx=>(idOf x,true))⟩
noncomputable def CX(w:aY)(base:ay):Cx:=⟨P0,w,base,KF w.params,nk,r7⟩
noncomputable def dE(P:cg)(l:List (Str×Nat×aa)):Array cG:=nq (l.map λp=>⟨oi P p.1,.str p.1 p.2.1,p.2.2⟩)
noncomputable def esD:List (Str×Nat×aa):=[((s "="),507,(.str (s "EQ") 508)),((s "<>"),509,(.str (s "NE") 510)),((s "<"),511,(.str (s "LT") 512)),((s "<="),513,(.str (s "LE") 514)),((s ">"),515,(.str (s "GT") 516)),((s ">="),517,(.str (s "GE") 518))]
noncomputable def es2:List (Str×Nat×aa):=[((s "type.__subclasses__.Exception.0"),557,(vi 232)),((s "type.__subclasses__.Exception.n"),558,(vi 2)),((s "type.__subclasses__.Exception.1"),953,(vi 521))]
theorem Zp(P:cg):(KF P).lookup 215=some ⟨.type "dict",none,.dict (dE P esD) 6, #[]⟩:=by kernel_rfl
theorem Zq(P:cg):(KF P).lookup cStatics=some ⟨.none,none,.dict (dE P es2) 3, #[]⟩:=by kernel_rfl
theorem JP(P:cg):JD (KF P) nk r7 215 glL=true:=by kernel_rfl
theorem UL(P:cg):clI.all (λc=>Qt (KF P) c.1&&(findIn (KF P) (.ref c.1) "__init__"==some (some (.ref (nk c.2)))&&UK.all λx=>bz x&&EO (KF P) c.1 x))=true:=by kernel_rfl
theorem UM(P:cg):JO.all (λp=>bz p.1&&p.2.all λq=>findIn (KF P) (.ref (r7 q.1)) p.1==some (some (.ref (nk q.2))))=true:=by kernel_rfl
theorem UN(P:cg):FZ.map (λp=>(KF P).lookup p.1)=FZ.map λp=>some (UI p.2 (((KF P).lookup p.1).getD default)):=by kernel_rfl
theorem JQ(P:cg):FZ.all (Qv (KF P))=true:=by kernel_rfl
section
variable{w:aY}{base:ay}
theorem CW{H β:Type}{d y:β}{f:H->Nat×β}{i:Nat}{l:List H}(e:Jz d (l.map f) i=y)(n:d≠y):∃p∈l,f p=(i,y):=by
 rcases NB (d:=d) (i:=i) (l:=l.map f) with q|q
 ·exact absurd (q.symm.trans e) n
 ·exact dC.mp (e▸q)
theorem CY(f:Nat):(nk f,zA f)∈FZ:=EP (.head _) f
theorem UO(c:Nat):(r7 c,NL c)∈clI:=EP (.head _) c
theorem Zr(c:Nat):(Qt (KF w.params) (r7 c)&&(findIn (KF w.params) (.ref (r7 c)) "__init__"==some (some (.ref (nk (NL c))))&&UK.all λx=>bz x&&EO (KF w.params) (r7 c) x))=true:=c9.mp (UL w.params) _ (UO c)
theorem fnB(f:Nat):(KF w.params).lookup (nk f)=some (UI (zA f) (((KF w.params).lookup (nk f)).getD default)):=iA.mp (UN w.params) _ (CY f)
theorem fnF(f:Nat):∃o fd,(KF w.params).lookup (nk f)=some o/\o.data=.func fd/\o.cls=.type "function":=by
 have h:=fnB (w:=w) f;have c:=c9.mp (JQ w.params) _ (CY f);refine aL (mU c) λo hl c=>aL (JM c) λfd hd Y=>?_;obtain⟨oc,od,dat,sl⟩:=o;have hd:dat=.func fd:=hd;subst hd;rw[show(KF w.params).lookup (nk f)=_ from hl] at h;exact⟨_,_,h▸hl,rfl,rfl⟩
theorem hsd:HsD (CX w base) 215:=λo es n hl hd e he x t hx=>by
 cases (Zp w.params).symm.trans hl
 cases hd
 obtain⟨p,_,rfl⟩:=dC.mp (nv.mpr he);injection hx with h1;rw[←h1];rfl
theorem NM(hK:(KF w.params).In base):k9 (CX w base) GT where
 name:=NH (X:=CX w base) hK (hsd (base:=base)) (λi v h=>(CW h λe=>by cases e).elim λp q=>⟨p,q.1,(eC q.2).1,OV.okI (eC q.2).2⟩) (JP w.params)
 fn:=λf=>(fnF f).elim λo p=>p.elim λfd p=>⟨o,fd,hK _ _ p.1,p.2.1⟩
 make:=λc=>(a2 (a2 (Zr c)).1).1
 init:=λc=>eq_of_beq (a2 (a2 (Zr c)).2).1
 isF:=λf=>(fnF f).elim λo p=>p.elim λfd p=>(show((KF w.params).lookup (nk f)).map (·.cls)=_ from by rw[p.1,←p.2.2];rfl)
 cls:=λc=>by
  have q:=a2 (a2 (a2 (Zr (w:=w) c)).1).2;have h:=(a2 q.2).2;refine⟨?_,eq_of_beq q.1⟩;refine aL (mU h) λo hl h=>bc (UG h) λx hd=>?_;obtain⟨oc,od,dat,sl⟩:=o;have hd:dat=.cls x:=hd;subst hd;exact⟨_,_,hK _ _ hl,rfl⟩
 LL:=λx c f hx hm=>(CW (y:=Jz [] (JO.map λp=>(idOf p.1,p.2)) (idOf x)) rfl (λe=>by have hm:(c,f)∈Jz [] (JO.map λp=>(idOf p.1,p.2)) (idOf x):=hm;rw[←e] at hm;cases hm)).elim λp q=>by
  have h:=a2 (c9.mp (UM w.params) p q.1);have e:=eC q.2;rw[←idOf_inj h.1 hx e.1];exact eq_of_beq (c9.mp h.2 (c,f) (e.2▸hm))
 zh:=λc x hx ha=>(CW (f:=λx=>(idOf x,true)) ha (λe=>by cases e)).elim λp q=>by
  have h:=a2 (c9.mp (a2 (a2 (Zr (w:=w) c)).2).2 p q.1);rw[←idOf_inj h.1 hx (eC q.2).1];exact JE h.2
 get:=λc x=>(a2 (a2 (a2 (a2 (Zr (w:=w) c)).1).2).2).1
end
end
end
set_option tactic.hygienic false
set_option backward.match.sparseCases false
set_option genCtorIdx false
set_option compiler.extract_closed false
section
open MH.Internal
inductive Pw {H:Type}:H->Prop|mk (x:H):Pw x
noncomputable section
noncomputable def Zs:List (Nat×V):=by
 haveI h:=Pw.mk (glL.map λp=>(idOf p.1,p.2))
 conv at h=>arg 1;reduce
 revert h;refine(?g:∀x,Pw x->_) _;exactλx Y=>x
noncomputable def abM:List (Nat×List (Nat×Nat)):=by
 haveI h:=Pw.mk (JO.map λp=>(idOf p.1,p.2))
 conv at h=>arg 1;reduce
 revert h;refine(?g:∀x,Pw x->_) _;exactλx Y=>x
noncomputable def nId:PySem.Expr->Nat|.Name y _=>idOf y|_=>0
noncomputable def nest(f:C->C->C)(l:List C):Option C:=l.foldr (λx r=>match r with|none=>some x|some r=>some (f x r)) none
variable(s:Stmt)(i j:Nat)(q:CS)(bn:hV->C->C->C)(cp:xg->C->C->C)(cq:xg->xg->C->C->C->C)(nl dn:C)(ng nt sl rv tu li di:C->C)(an or ac ca ix sL sH:C->C->C)(it dc sB:C->C->C->C)(fc bl:Nat->C->C)(nw:Nat->Nat->C->C)(me:Nat->List (Nat×Nat)->C->C->C)(bm:Mt->C->C->C)(zh:C->Nat->C)(rp:C->Nat->C)(co:List Nat->C->Tg->C->C)(t1:Nat->Tg)(tm:List Nat->Tg)(v:Nat->C)(k:V->C)
noncomputable def pzT:PySem.Expr->Tg|.Tuple es _ _=>tm (es.map nId)|e=>t1 (nId e)
noncomputable def pzE(n:Nat):Nm->PySem.Expr->Option C:=@Nat.rec (λY=>Nm->PySem.Expr->Option C) (λY Y=>none) (λY r nm e=>
  let acW:=r nm
  let L:=λes:List PySem.Expr=>(es.mapM acW).map λl=>l.foldr ac nl
  match e with
  |.Constant (.int i) _ _=>some (k (.int i))
  |.Constant (.str i) _ _=>some (k (.str i.cps.toList))
  |.Constant (.bool i) _ _=>some (k (.bool i))
  |.Constant .none _ _=>some (k .none)
  |.Name x _=>if nm.lookup x==some .globalImplicit then(Zs.lookup (idOf x)).map k else some (v (idOf x))
  |.BinOp (.List es _) .Mult (.Constant (.int (.ofNat i)) _ _) _=>(L es).map λl=>rp l i
  |.BinOp x o y _=>do bn (←V6 o).1 (←acW x) (←acW y)
  |.UnaryOp .USub x _=>(acW x).map ng
  |.UnaryOp .Not x _=>(acW x).map nt
  |.BoolOp o es _=>do nest (match o with|.And=>an|_=>or) (←es.mapM acW)
  |.IfExp t x y _=>do it (←acW t) (←acW x) (←acW y)
  |.Compare x [o] [y] _=>do cp (V7 o λo Y=>o) (←acW x) (←acW y)
  |.Compare x [o,p] [y,z] _=>do cq (V7 o λo Y=>o) (V7 p λo Y=>o) (←acW x) (←acW y) (←acW z)
  |.Subscript a (.Slice x y z _) _=>do
   let a←acW a
   match x,y,z with
   |none,none,none=>sl a
   |some x,none,none=>sL a (←acW x)
   |none,some y,none=>sH a (←acW y)
   |some x,some y,none=>sB a (←acW x) (←acW y)
   |_,_,_=>rv a
  |.Subscript a i _=>do ix (←acW a) (←acW i)
  |.Tuple es _ _=>(L es).map tu
  |.List es _=>(L es).map li
  |.Dict ks vs _=>do di (((←(ks.filterMap id).mapM acW).zip (←vs.mapM acW)).foldr (λp r=>dc p.1 p.2 r) dn)
  |.ListComp x [⟨t,i,[],_⟩] sc _=>do co (Jx sc) (←r sc.names x) (pzT t1 tm t) (←acW i)
  |.Attribute o y _=>do zh (←acW o) (idOf y)
  |.Call f es [] _=>do
   let l←L es
   match f with
   |.Name x _=>match (if nm.lookup x==some .globalImplicit then Zs.lookup (idOf x) else none) with
    |some (.fn i)=>fc i l
    |some (.blt i)=>bl i l
    |some (.cls c)=>nw c (NL c) l
    |_=>ca (←acW f) l
   |.Attribute o y _=>match abM.lookup (idOf y) with
    |some t=>me (idOf y) t (←acW o) l
    |_=>bm (←mtI y [.append,.extend,.index,.join,.find,.get,.split]).1 (←acW o) l
   |_=>none
  |_=>none) n
variable(sa:Nat->C->CS)(sA:C->Nat->C->CS)(sI:C->C->C->CS)(su:Tg->C->CS)(sg:Nat->hV->C->CS)(sG:C->Nat->hV->C->CS)(sr sx:C->CS)(si:C->CS->CS->CS)(sw:C->CS->CS)(sf:Tg->C->CS->CS)(sy:CS->CS)(sc sb sk qn:CS)(qc:CS->CS->CS)
variable(nm:Nm)
noncomputable def pzS(n:Nat):Stmt->CS:=@Nat.rec (λY=>Stmt->CS) (λY=>sk) (λY abN aw=>
  let acW:=pzE bn cp cq nl dn ng nt sl rv tu li di an or ac ca ix sL sH it dc sB fc bl nw me bm zh rp co t1 tm v k 30 nm
  let Q:=λl:List Stmt=>l.foldr (λs r=>qc (abN s) r) qn
  (do match aw with
   |.Assign [.Name y _] e _=>sa (idOf y) (←acW e)
   |.Assign [.Attribute o y _] e _=>sA (←acW o) (idOf y) (←acW e)
   |.Assign [.Subscript o i _] e _=>sI (←acW o) (←acW i) (←acW e)
   |.Assign [.Tuple es _ _] e _=>su (tm (es.map nId)) (←acW e)
   |.AugAssign (.Name y _) o e _=>sg (idOf y) (←V6 o).1 (←acW e)
   |.AugAssign (.Attribute a y _) o e _=>sG (←acW a) (idOf y) (←V6 o).1 (←acW e)
   |.Return none _=>sr (k .none)
   |.Return (some e) _=>sr (←acW e)
   |.Expr e _=>sx (←acW e)
   |.If t a b _=>si (←acW t) (Q a) (Q b)
   |.While t a [] _=>sw (←acW t) (Q a)
   |.For t i a [] _=>sf (pzT t1 tm t) (←acW i) (Q a)
   |.Try a _ _ _ _=>sy (Q a)
   |.Continue _=>sc
   |.Break _=>sb
   |_=>none:Option CS).getD sk) n
noncomputable def pzQ:CS:=(VJ i (drp j (fBody s))).foldr (λaw r=>qc (pzS bn cp cq nl dn ng nt sl rv tu li di an or ac ca ix sL sH it dc sB fc bl nw me bm zh rp co t1 tm v k sa sA sI su sg sG sr sx si sw sf sy sc sb sk qn qc (fScope s).names 30 aw) r) q
noncomputable def pzF:Fn:=⟨((fArgs s).args.map (·.arg)).map idOf,pzQ s i j q bn cp cq nl dn ng nt sl rv tu li di an or ac ca ix sL sH it dc sB fc bl nw me bm zh rp co t1 tm v k sa sA sI su sg sG sr sx si sw sf sy sc sb sk qn qc⟩
end
theorem Pw.bd{l:List Nat}{x:CS}(_:Pw (Fn.mk l x)):Pw x:=.mk _
theorem Pw.at{f:type_of% (pzF (st 0) 0 0)}(q:CS)(_:Pw f):Pw (f q et gd mZ ck B5 L_ xR cSl Q8 pV B6 FO u9 WJ aH HG h_ Ma HI w0 DG vb rZ jE HF pK FN dZ Q' j7 iX gK cV cC m_ Ac sV w1 Ad vc vd r6 B8 B' xS B_ DO Ra pX fm bI):=.mk _
noncomputable section
noncomputable def W(n:Nat):Type:=Fn
noncomputable abbrev Wq(n:Nat):Type:=Pw (pzF (zA n) 999 0)->W n
noncomputable abbrev dJ(n:Nat)(x:W n:=by
 refine(?c:Wq _) (.mk _);intro h
 conv at h=>arg 1;reduce
 haveI h:=h.at fm
 revert h;refine(?g:∀x,Pw x->Fn) _;exactλx Y=>x):Fn:=x
def f0:Fn:=dJ 0
def f1:Fn:=dJ 1
def f2:Fn:=dJ 2
def f3:Fn:=dJ 3
def f4:Fn:=dJ 4
def f5:Fn:=dJ 5
def f6:Fn:=dJ 6
def f7:Fn:=dJ 7
def f8:Fn:=dJ 8
def f9:Fn:=dJ 9
def f10:Fn:=dJ 10
def f11:Fn:=dJ 11
def f12:Fn:=dJ 12
def f13:Fn:=dJ 13
def f14:Fn:=dJ 14
def f15:Fn:=dJ 15
def f16:Fn:=dJ 16
def f17:Fn:=dJ 17
def f18:Fn:=dJ 18
def f19:Fn:=dJ 19
def f20:Fn:=dJ 20
def f21:Fn:=dJ 21
def f22:Fn:=dJ 22
def f23:Fn:=dJ 23
def Zt:Fn:=dJ 24
def f25:Fn:=dJ 25
def Zu:Fn:=dJ 26
def f27:Fn:=dJ 27
def f28:Fn:=dJ 28
def f29:Fn:=dJ 29
def f30:Fn:=dJ 30
def f31:Fn:=dJ 31
def Zv:Fn:=dJ 32
def f33:Fn:=dJ 33
def f34:Fn:=dJ 34
def f35:Fn:=dJ 35
def f37:Fn:=dJ 37
def f38:Fn:=dJ 38
def NN:Fn:=dJ 39
def V8:Fn:=dJ 40
def Zw:Fn:=dJ 41
def f42:Fn:=dJ 42
def f43:Fn:=dJ 43
def f44:Fn:=dJ 44
def f45:Fn:=dJ 45
def f46:Fn:=dJ 46
def f47:Fn:=dJ 47
def f48:Fn:=dJ 48
def f50:Fn:=dJ 50
def f53:Fn:=dJ 53
def f54:Fn:=dJ 54
def Zx:Fn:=dJ 55
def f56:Fn:=dJ 56
def Zy:Fn:=dJ 57
def f58:Fn:=dJ 58
def f63:Fn:=dJ 63
def f64:Fn:=dJ 64
def f65:Fn:=dJ 65
def f66:Fn:=dJ 66
def f67:Fn:=dJ 67
def f68:Fn:=dJ 68
def f69:Fn:=dJ 69
def f70:Fn:=dJ 70
def f71:Fn:=dJ 71
def f72:Fn:=dJ 72
def f73:Fn:=dJ 73
def f74:Fn:=dJ 74
def f75:Fn:=dJ 75
def f76:Fn:=dJ 76
def f77:Fn:=dJ 77
def f78:Fn:=dJ 78
def f79:Fn:=dJ 79
def f80:Fn:=dJ 80
def f81:Fn:=dJ 81
def f82:Fn:=dJ 82
def f83:Fn:=dJ 83
def f84:Fn:=dJ 84
def f85:Fn:=dJ 85
def f86:Fn:=dJ 86
def f87:Fn:=dJ 87
def f88:Fn:=dJ 88
def f89:Fn:=dJ 89
def f90:Fn:=dJ 90
def zj:Fn:=dJ 91
def f92:Fn:=dJ 92
def f93:Fn:=dJ 93
def f94:Fn:=dJ 94
def yz:Fn:=dJ 95
def f96:Fn:=dJ 96
def f97:Fn:=dJ 97
def f98:Fn:=dJ 98
def f99:Fn:=dJ 99
def UP:Fn:=dJ 100
def UQ:Fn:=dJ 102
def UR:Fn:=dJ 103
def US:Fn:=dJ 106
def NO:Fn:=dJ 107
def Gm:Fn:=dJ 108
def NP:Fn:=dJ 113
def JR:Fn:=dJ 114
def UT:Fn:=dJ 115
def UU:Fn:=dJ 117
def UW:Fn:=dJ 118
def UX:Fn:=dJ 119
def NQ:Fn:=dJ 120
def UY:Fn:=dJ 122
def UZ:Fn:=dJ 126
def U0:Fn:=dJ 127
def U1:Fn:=dJ 128
def te:Fn:=dJ 129
def Zz(q:CS):CS:=by
 haveI h:=Pw.mk (pzF (zA 131) 5 0)
 conv at h=>arg 1;reduce
 haveI h:=(h.at q).bd
 revert h;refine(?g:∀x,Pw x->CS) _;exactλx Y=>x
def ZA:CS:=by
 haveI h:=Pw.mk (pzF (zA 131) 999 5)
 conv at h=>arg 1;reduce
 haveI h:=(h.at fm).bd
 revert h;refine(?g:∀x,Pw x->CS) _;exactλx Y=>x
noncomputable abbrev tn(f:Fn):=Tr.node (aq f)
noncomputable def gQ:Tr (Kc->V->Mm->RE):=(tn f0 (tn f1 (tn f3 (tn f7 (tn f15 (tn f31 (tn f63 (tn U0 .nil .nil) .nil) (tn yz .nil .nil)) (tn f47 (tn f79 .nil .nil) (tn f0 .nil .nil))) (tn f23 (tn NN (tn f71 .nil .nil) (tn UR .nil .nil)) (tn Zx (tn f87 .nil .nil) (tn UX .nil .nil)))) (tn f11 (tn f19 (tn f35 (tn f67 .nil .nil) (tn f99 .nil .nil)) (tn f0 (tn f83 .nil .nil) (tn UT .nil .nil))) (tn f27 (tn f43 (tn f75 .nil .nil) (tn NO .nil .nil)) (tn f0 (tn zj .nil .nil) (tn f0 .nil .nil))))) (tn f5 (tn f9 (tn f17 (tn f33 (tn f65 (tn te .nil .nil) .nil) (tn f97 .nil .nil)) (tn f0 (tn f81 .nil .nil) (tn NP .nil .nil))) (tn f25 (tn Zw (tn f73 .nil .nil) (tn f0 .nil .nil)) (tn Zy (tn f89 .nil .nil) (tn f0 .nil .nil)))) (tn f13 (tn f21 (tn f37 (tn f69 .nil .nil) (tn f0 .nil .nil)) (tn f53 (tn f85 .nil .nil) (tn UU .nil .nil))) (tn f29 (tn f45 (tn f77 .nil .nil) (tn f0 .nil .nil)) (tn f0 (tn f93 .nil .nil) (tn f0 .nil .nil)))))) (tn f2 (tn f4 (tn f8 (tn f16 (tn Zv (tn f64 (tn U1 .nil .nil) .nil) (tn f96 .nil .nil)) (tn f48 (tn f80 .nil .nil) (tn f0 .nil .nil))) (tn Zt (tn V8 (tn f72 .nil .nil) (tn f0 .nil .nil)) (tn f56 (tn f88 .nil .nil) (tn NQ .nil .nil)))) (tn f12 (tn f20 (tn f0 (tn f68 .nil .nil) (tn UP .nil .nil)) (tn f0 (tn f84 .nil .nil) (tn f0 .nil .nil))) (tn f28 (tn f44 (tn f76 .nil .nil) (tn Gm .nil .nil)) (tn f0 (tn f92 .nil .nil) (tn f0 .nil .nil))))) (tn f6 (tn f10 (tn f18 (tn f34 (tn f66 (tn f0 .nil .nil) .nil) (tn f98 .nil .nil)) (tn f50 (tn f82 .nil .nil) (tn JR .nil .nil))) (tn Zu (tn f42 (tn f74 .nil .nil) (tn US .nil .nil)) (tn f58 (tn f90 .nil .nil) (tn UY .nil .nil)))) (tn f14 (tn f22 (tn f38 (tn f70 .nil .nil) (tn UQ .nil .nil)) (tn f54 (tn f86 .nil .nil) (tn UW .nil .nil))) (tn f30 (tn f46 (tn f78 .nil .nil) (tn f0 .nil .nil)) (tn f0 (tn f94 .nil .nil) (tn UZ .nil .nil)))))))
end
end
set_option backward.match.sparseCases true
set_option genCtorIdx true
set_option compiler.extract_closed true
noncomputable def w6(mm:Nat->Int):Nat->Nat->V
 |0,_=>.nil
 |n+1,k=>.cons (.sym (mm k)) (w6 mm n (k+1))
theorem JS(mm:Nat->Int):∀n k,aO (w6 mm n k)=n:=by
 intro zr
 induction zr with
 |zero=>
  exact @λ_=>rfl
 |succ n bN=>
  exact @λk=>congrArg aZ (bN (k+1))
theorem v8(mm:Nat->Int):∀n k i,i<n->eW (w6 mm n k) i=.ok (.sym (mm (k+i)))
 |0,_,_,h=>absurd h (eA _)
 |n+1,k,0,_=>rfl
 |n+1,k,i+1,h=>by
  show eW (w6 mm n (k+1)) i=_;exact ah (v8 mm n (k+1) i (jy h)) (ah (show k+1+i=k+(i+1) by exact lO _ _ _) rfl)
noncomputable abbrev mem(mm:Nat->Int):V:=w6 mm 256 0
theorem NR(mm:Nat->Int){i:Nat}(h:i<256):sZ (mem mm) i=.sym (mm i):=by
 unfold sZ;rw[v8 mm 256 0 i h,d8]
theorem U2(mm:Nat->Int){j:Int}(h0:0≤j)(h1:j<256):BQ (mem mm) j=true:=by
 have hl:low j=true:=by
  unfold low;rw[bj,bj,decide_eq_true (by omega),decide_eq_true (qp (by assumption) (by decide))];rfl
 unfold BQ;rw[JS,hl,eL,bj,decide_eq_true h0,decide_eq_true (show j<ab 256 by show j<256;exact h1)]
 rfl
theorem A'(mm:Nat->Int)(a:Int)(ha:0≤a)(K:Kc):ae (aq f0 K (.cons (.lst (mem mm)) (.cons (.sym a) .nil))) [] (.sym (mm (dz (a % 256)))) [] :=by
 have hf:bw a 256=a % 256:=nK a (by decide);have h0:0≤bw a 256:=by refine ah hf ?_;exact Int.emod_nonneg a (by decide)
 have h1:bw a 256<256:=by refine ah hf ?_;exact Int.emod_lt_of_pos a (by decide)
 refine eV hf (eV (NR mm (i:=dz (bw a 256)) (by omega)) ?_);exact⟨[],[BQ (mem mm) (bw a 256)=true],⟨U2 mm h0 h1,trivial⟩,λbC o'=>by kernel_rfl⟩
section
variable{K:Kc}{E:Env}{I σ₁:List O}{a b:C}{p q:Bool}
theorem yA(ha:ae (a K E) I (.bool p) I)(hb:p=false->ae (b K E) I (.bool q) I):ae (WJ a b K E) I (.bool (p||q)) I:=by
 refine ae.ite (br.qW ha) ?_
 induction p with
 |true=>exact ae.ok
 |false=>exact hb rfl
theorem yB(ha:ae (a K E) I (.bool p) I)(hb:p=true->ae (b K E) I (.bool q) I):ae (u9 a b K E) I (.bool (p&&q)) I:=by
 refine ae.ite (br.qW ha) ?_
 induction p with
 |false=>exact ae.ok
 |true=>exact hb rfl
noncomputable def BW(x y c:Nat):Bool:=FG [x] [c] &&FG [c] [y]
theorem yC{x y c n:Nat}:ae (mZ .le .le (cC (.str [x])) (cV n) (cC (.str [y])) K (.cons n (.ak [c]) .nil)) I (.bool (BW x y c)) I:=by
 have hv:a8 (.cons n (.ak [c]) .nil) n=.ok (.ak [c]):=by
  show @Bool.rec (λY=>OV) _ _ (aC n n)=_;rw[jY]
 have key:∀B,mZ .le .le (cC (.str [x])) (cV n) (cC (.str [y])) K (.cons n (.ak [c]) .nil) B=xQ (ask (FG [x] [c]) B) (λB=>u7 (ask (FG [c] [y]) B)) (RE.ok (.bool false)):=λB=>by
  show cw (ze (a8 (.cons n (.ak [c]) .nil) n) B) _=_;refine ah hv ?_;rfl
 refine ae.to (ae.ite br.ask ?_) key;unfold BW
 cases FG [x] [c] with
 |false=>exact ae.ok
 |true=>exact ae.bool br.ask
noncomputable def kP(c:Nat):Bool:=BW 48 57 c
theorem CZ{c:Nat}:ae (aq f30 K (.cons (.ak [c]) .nil)) I (.bool (kP c)) I:=
 ae.call (ns:=[eU]) rfl (au.iI (au.and yC (au.out (r:=.ret _))))
noncomputable def isOdd(c:Nat):Bool:=sEq [95] [c] ||(sEq [63] [c] ||(sEq [46] [c] ||(sEq [64] [c] ||false)))
noncomputable def rF(c:Nat):Bool:=BW 65 90 c||(BW 97 122 c||isOdd c)
theorem NS{c n:Nat}:ae (gd .BO (cV n) (pV (aH (cC (.str [95])) (aH (cC (.str [63])) (aH (cC (.str [46])) (aH (cC (.str [64])) ck))))) K (.cons n (.ak [c]) .nil)) I (.bool (isOdd c)) I:=by
 have hv:a8 (.cons n (.ak [c]) .nil) n=.ok (.ak [c]):=by
  show @Bool.rec (λY=>OV) _ _ (aC n n)=_;rw[jY]
 have key:∀B,gd .BO (cV n) (pV (aH (cC (.str [95])) (aH (cC (.str [63])) (aH (cC (.str [46])) (aH (cC (.str [64])) ck))))) K (.cons n (.ak [c]) .nil) B=u7 (u0 (.ak [c]) (.cons (.str [95]) (.cons (.str [63]) (.cons (.str [46]) (.cons (.str [64]) .nil)))) B):=λB=>by
  show cw (ze (a8 (.cons n (.ak [c]) .nil) n) B) _=_;refine ah hv ?_;rfl
 have one:∀(y:S)(r:V)(q:Bool),pI r=true->br (u0 (.ak [c]) r) I q I->br (u0 (.ak [c]) (.cons (.str y) r)) I (sEq y [c] ||q) I:=λy r q hf h=>by
  refine a6 h λh1 o1 p1 e1=>?_;clear h;have step:∀B,u0 (.ak [c]) (.cons (.str y) r) B=neT (pI r) (ask (sEq y [c]) B) (u0 (.ak [c]) r):=λB=>rfl;refine cW (sEq y [c]) (λhs=>?_) (λhs=>?_);rotate_left
  ·refine(bA (hB [true]) [sEq y [c] =true] ⟨hs,trivial⟩ (λbC o'=>?_));rw[step,hf];rfl
  ·refine(bA (.bool false::h1) (o1++[sEq y [c] =false]) (AllP.app p1 ⟨hs,trivial⟩) (λbC o'=>?_));rw[step,hf,bH];exact e1 bC ((sEq y [c] =false)::o')
 exact ae.to (ae.bool (one [95] _ _ rfl (one [63] _ _ rfl (one [46] _ _ rfl (one [64] .nil false rfl (show br (RB.ok false) I false I from br.ok)))))) key
theorem v9{c:Nat}:ae (aq f29 K (.cons (.ak [c]) .nil)) I (.bool (rF c)) I:=
 ae.call (ns:=[eU]) rfl (au.iI (au.and (yA yC λY=>yA yC λY=>NS) (au.out (r:=.ret _))))
noncomputable def jk(c:Nat):Bool:=rF c||kP c
theorem w7{c:Nat}(xB:ae (K 29 (.cons (.ak [c]) .nil)) I (.bool (rF c)) I)(v_:ae (K 30 (.cons (.ak [c]) .nil)) I (.bool (kP c)) I):ae (aq f31 K (.cons (.ak [c]) .nil)) I (.bool (jk c)) I:=by
 refine ae.call (ns:=[eU]) rfl (au.iI (au.and (yA (ae.to xB λB=>rfl) λY=>ae.to v_ λB=>rfl) (au.out (r:=.ret _))))
end
section
variable{K:Kc}{E ε₁:Env}{I σ₁:List O}{a c:C}{b:CS}{p q:Bool}{n:Nat}{r:Out}
theorem au.yD(h:br (λB=>kE (c K E B)) I false I):au (lV c b K (n+1) E) I (.dw E) I:=
 au.to (au.ite (f:=λB=>j8 (b K E B) (lV c b K n)) (g:=RS.dw E) h (au.out (r:=.dw E))) λB=>rfl
theorem au.wa{σ₂:List O}(h:br (λB=>kE (c K E B)) I true I)(hb:au (b K E) I (.dw ε₁) σ₂)(hr:au (lV c b K n ε₁) σ₂ r σ₁):au (lV c b K (n+1) E) I r σ₁:=
 au.to (au.ite (f:=λB=>j8 (b K E B) (lV c b K n)) (g:=RS.dw E) h (au.loop (.inl hb) hr)) λB=>rfl
noncomputable def jq:S->Nat
 | [] =>0
 |c::r=>bif jk c then jq r+1 else 0
noncomputable abbrev qd(s:S)(i:Nat):Env:=.cons bY (.ak s) (.cons aB (.sym (i:Int)) .nil)
noncomputable def ZC:C:=u9 (gd .lt (cV aB) (jE 0 (aH (cV bY) ck))) (rZ 31 (aH (h_ (cV bY) (cV aB)) ck))
theorem fG{s:S}(h:s.length≤500):cY s=true:=by
 unfold cY;rw[eu];exact ez.mpr (by omega)
theorem ER{s:S}{i:Nat}(hs:s.length≤500):ae (gd .lt (cV aB) (jE 0 (aH (cV bY) ck)) K (qd s i)) I (.bool (gI (i:Int) (ab (j5 s)))) I:=
 ⟨[.bool (gI (i:Int) (ab (j5 s)))],[gI (i:Int) (ab (j5 s))=gI (i:Int) (ab (j5 s)),cY s=true],(bL rfl (fG hs) trivial),λbC o'=>by kernel_rfl⟩
theorem yE{s:S}{i:Nat}(hs:s.length≤500)(hi:i<s.length):L2 s (i:Int)=true:=by
 have hl:low (i:Int)=true:=by
  unfold low;rw[bj,bj,decide_eq_true (by omega),decide_eq_true (by omega)];rfl
 unfold L2;rw[eu,hl,eL,bj,decide_eq_true (by omega),decide_eq_true (show(i:Int)<ab s.length by show(i:Int)< (s.length:Int);omega)]
 rfl
theorem Gn{s:S}{i c:Nat}(hs:s.length≤500)(hc:s[i]? =some c)(ZD:∀c,ae (K 31 (.cons (.ak [c]) .nil)) I (.bool (jk c)) I):ae (rZ 31 (aH (h_ (cV bY) (cV aB)) ck) K (qd s i)) I (.bool (jk c)) I:=by
 have hi:i<s.length:=(cA.mp hc).1;have hn:mB s (dz (i:Int))=[c] :=by rw[fh,gU,hc]
 have key:∀B,rZ 31 (aH (h_ (cV bY) (cV aB)) ck) K (qd s i) B=cw (RE.ok (.cons (.ak (mB s (dz (i:Int)))) .nil) (Mine.Internal.m9 (L2 s (i:Int)) B)) (K 31):=λB=>by kernel_rfl
 refine ae.to (ae.and (ae.m9 (yE hs hi)) ?_) key;refine ah hn ?_;exact ZD c
theorem JT{s:S}{i:Nat}:au (bI (Ad aB .add (cC (.int (.ofNat 1)))) fm K (qd s i)) I (.dw (qd s (i+1))) I:=by
 have e:∀bC o',bI (Ad aB .add (cC (.int (.ofNat 1)))) fm K (qd s i) ⟨I,bC,o'⟩=RS.dw (.cons bY (.ak s) (.cons aB (.sym (aS (i:Int) 1)) .nil)) ⟨I,bC,o'⟩:=λbC o'=>by kernel_rfl
 refine(bA [] [] trivial (λbC o'=>?_));rw[List.nil_append,e]
 rfl
theorem Gp{s:S}(hs:s.length≤500)(ZD:∀c,ae (K 31 (.cons (.ak [c]) .nil)) I (.bool (jk c)) I):∀(n i:Nat),i≤s.length->s.length - i<n->au (lV ZC (bI (Ad aB .add (cC (.int (.ofNat 1)))) fm) K n (qd s i)) I (.dw (qd s (i+jq (s.drop i)))) I:=by
 intro zr
 induction zr with
 |zero=>
  exact @λi _ h=>absurd h (eA _)
 |succ n bN=>
  exact @λi hi hn=>by
   refine kY (s[i]?) (λhc=>?_) (λc hc=>?_)
   ·have hl:s.length≤i:=iP.mp hc
    have:gI (i:Int) (ab (j5 s))=false:=by
     rw[bj,eu];exact decide_eq_false (by show¬(i:Int)< (s.length:Int);omega)
    have h0:jq (s.drop i)=0:=by refine ah (zC hl) ?_;rfl
    refine ah h0 ?_;refine au.yD (br.qW (b:=false) ?_)
    have:=yB (K:=K) (E:=qd s i) (I:=I) (a:=gd .lt (cV aB) (jE 0 (aH (cV bY) ck))) (b:=rZ 31 (aH (h_ (cV bY) (cV aB)) ck)) (q:=false) (ER hs) (λh=>by rw[this] at h;exact absurd h nT);rwa [tR] at this
   ·have hl:i<s.length:=(cA.mp hc).1
    have hW:gI (i:Int) (ab (j5 s))=true:=by
     rw[bj,eu];exact decide_eq_true (by show(i:Int)< (s.length:Int);omega)
    have hd:s.drop i=c::s.drop (i+1):=by
     have:=lH hl;refine ah this ?_
     congr 1
     exact iS ((eZ hl).symm.trans hc)
    have ht:ae (ZC K (qd s i)) I (.bool (jk c)) I:=by
     have:=yB (K:=K) (E:=qd s i) (I:=I) (a:=gd .lt (cV aB) (jE 0 (aH (cV bY) ck))) (b:=rZ 31 (aH (h_ (cV bY) (cV aB)) ck)) (ER hs) (λY=>Gn hs hc ZD);rwa [hW,Bool.true_and] at this
    refine ah hd ?_;show au _ I (.dw (qd s (i+bif jk c then jq (s.drop (i+1))+1 else 0))) I;refine cW (jk c) (λhp=>?_) (λhp=>?_)
    ·rw[hp] at ht;exact au.yD (br.qW ht)
    ·rw[hp] at ht;refine au.wa (br.qW ht) JT ?_
     have:=bN (i+1) hl (by omega);show au _ I (.dw (qd s (i+(jq (s.drop (i+1))+1)))) I;rwa [show i+(jq (s.drop (i+1))+1)=i+1+jq (s.drop (i+1)) by lia]
theorem A_{s:S}{i:Nat}(hs:s.length≤500)(hi:i≤s.length)(ZD:∀c,ae (K 31 (.cons (.ak [c]) .nil)) I (.bool (jk c)) I):ae (aq f33 K (.cons (.ak s) (.cons (.sym (i:Int)) .nil))) I (.sym ((i+jq (s.drop i):Nat):Int)) I:=by
 refine ae.call (ns:=[bY,aB]) (E:=qd s i) rfl ?_;refine au.seq (E:=qd s (i+jq (s.drop i))) (Gp hs ZD turns i hi (by show s.length - i<600;omega)) ?_;exact⟨[],[],trivial,λbC o'=>by kernel_rfl⟩
end
section
variable{K:Kc}{E ε₁ cz:Env}{I σ₁ σ₂:List O}{t:Tg}{v y:V}{b:CS}{n j:Nat}{r:Out}
theorem au.yF(hd:∀B,drawn v j B=.fin):au (forL t v b K (n+1) j E) I (.dw E) I:=
 au.to (au.out (r:=.dw E)) λB=>by
  show @RD.rec (λY=>RS) RS.no (RS.dw E B) (λy=>q7 b K (t y E B) B (forL t v b K n (aZ j))) (drawn v j B)=RS.dw E B;rw[hd]
theorem au.oQ(hd:∀B,drawn v j B=.ok y)(ht:∀B,t y E B=.ok ε₁)(hb:au (b K ε₁) I (.dw cz) σ₁)(hr:au (forL t v b K n (j+1) cz) σ₁ r σ₂):au (forL t v b K (n+1) j E) I r σ₂:=
 au.to (au.loop (.inl hb) hr) λB=>by
  show @RD.rec (λY=>RS) RS.no (RS.dw E B) (λy=>q7 b K (t y E B) B (forL t v b K n (aZ j))) (drawn v j B)=_;rw[hd];show q7 b K (t y E B) B _=_;rw[ht]
  rfl
noncomputable def kF:S->Int->Int
 | [],a=>a
 |c::r,a=>kF r (a * 10+((c:Int) - 48))
noncomputable def yG:S:=[48,49,50,51,52,53,54,55,56,57,65,66,67,68,69,70]
theorem JU{c:Nat}(h0:48≤c)(h1:c≤57):gJ c yG 0=(c:Int) - 48:=by
 have:c=48∨c=49∨c=50∨c=51∨c=52∨c=53∨c=54∨c=55∨c=56∨c=57:=by lia
 rcases this with rfl|rfl|rfl|rfl|rfl|rfl|rfl|rfl|rfl|rfl<;>rfl
noncomputable abbrev JV:CS:=(bI (m_ uS (FN .find (cC (.str [48,49,50,51,52,53,54,55,56,57,65,66,67,68,69,70])) (aH (cV eU) ck))) (bI (B8 (WJ (gd .lt (cV uS) (cC (.int (.ofNat 0)))) (gd .ge (cV uS) (cV qT))) (bI (vd (cC .none)) fm) fm) (bI (m_ j3 (et .add (et .mul (cV j3) (cV qT)) (cV uS))) fm)))
noncomputable abbrev NT(s:S)(a:V):Env:=.cons sT (.ak s) (.cons qT (.int 10) (.cons j3 a .nil))
noncomputable abbrev JW(s:S)(a:V)(x y:V):Env:=.cons sT (.ak s) (.cons qT (.int 10) (.cons j3 a (.cons eU x (.cons uS y .nil))))
theorem Ba{s:S}{c:Nat}{a:V}{i:Int}(ha:a=.sym i∨a=.int 0/\i=0){tl:Env}(ht:tl=.nil∨∃y,tl=.cons uS y .nil)(h0:48≤c)(h1:c≤57)(hk:BP .mul i 10=true):
  au (JV K (.cons sT (.ak s) (.cons qT (.int 10) (.cons j3 a (.cons eU (.ak [c]) tl))))) I (.dw (JW s (.sym (i * 10+((c:Int) - 48))) (.ak [c]) (.sym ((c:Int) - 48)))) I:=by
 have hf:=JU h0 h1;have hl:gI (gJ c yG 0) 0=false:=by rw[hf,bj];exact decide_eq_false (by omega)
 have hg:LX (gJ c yG 0) 10=false:=by rw[hf,tq];exact decide_eq_false (by omega)
 refine eV hf ?_
 rcases ha with rfl|⟨rfl,rfl⟩
 ·refine(bA (hB [false,false]) [zb .add (gJ c yG 0)=true,BP .mul i 10=true,LX (gJ c yG 0) 10=false,gI (gJ c yG 0) 0=false] (vj rfl hk hg hl trivial) (λbC o'=>?_))
  rcases ht with rfl|⟨y,rfl⟩<;>kernel_rfl
 ·refine(bA (hB [false,false]) [zb .add (gJ c yG 0)=true,LX (gJ c yG 0) 10=false,gI (gJ c yG 0) 0=false] (ib rfl hg hl trivial) (λbC o'=>?_))
  rcases ht with rfl|⟨y,rfl⟩<;>kernel_rfl
end
section
variable{K:Kc}{I:List O}{s:S}
theorem U3{i:Int}(h0:0≤i)(h1:i<1000000000000):BP .mul i 10=true:=by
 have hm:∀k:Int,0≤k->k<1000000000000->mid k=true:=λk a b=>by
  unfold mid;rw[bj,bj,decide_eq_true (by omega),decide_eq_true (by omega)];rfl
 show ek (mid i) (mid 10)=true;refine ah (hm i h0 h1) (ah (hm 10 (by decide) (by decide)) ?_);rfl
theorem ZE(hd:∀c∈s,48≤c/\c≤57)(hs:s.length≤11):∀(n j:Nat)(i:Int)(E:Env),(E=NT s (.int 0)/\i=0∨∃x y,E=JW s (.sym i) x y)->0≤i->i<10 ^ j->j≤s.length->s.length - j<n->
  ∃eR,au (forL (iX eU) (.ak s) JV K n j E) I (.dw eR) I/\(j=s.length->eR=E)/\(j<s.length->∃x y,eR=JW s (.sym (kF (s.drop j) i)) x y):=by
 intro zr
 induction zr with
 |zero=>
  exact @λj _ _ _ _ _ _ h=>absurd h (eA _)
 |succ n bN=>
  exact @λj i E hε h0 h1 hj hn=>by
   refine kY (s[j]?) (λhc=>?_) (λc hc=>?_)
   ·have hl:s.length≤j:=iP.mp hc
    have ES:∀B,drawn (.ak s) j B=.fin:=λB=>by
     show xj (Hc false (mB s j))=_;rw[fh,hc];rfl
    exact bS E (au.yF ES) (λY=>rfl) (λh=>absurd hl (Nat.not_le.mpr h))
   ·have hl:j<s.length:=(cA.mp hc).1;have hcm:c∈s:=jv hc;refine aD (hd c hcm) λc0 c1=>?_
    have ES:∀B,drawn (.ak s) j B=.ok (.ak [c]):=λB=>by
     show xj (Hc false (mB s j))=_;rw[fh,hc];rfl
    have hdp:s.drop j=c::s.drop (j+1):=by
     refine ah (lH hl) ?_
     congr 1
     exact iS ((eZ hl).symm.trans hc)
    have hb:(10:Int) ^ j≤10 ^ 10:=by
     have:j≤10:=by omega
     have h2:(10:Nat) ^ j≤10 ^ 10:=zL (by decide) this
     exact_mod_cast h2
    have hmul:=U3 (i:=i) h0 (by
     have:(10:Int) ^ 10=10000000000:=by decide
     omega)
    have h0':0≤i * 10+((c:Int) - 48):=by omega
    have h1':i * 10+((c:Int) - 48)<10 ^ (j+1):=by rw[Int.pow_succ];omega
    refine bQ (bN (j+1) (i * 10+((c:Int) - 48)) (JW s (.sym (i * 10+((c:Int) - 48))) (.ak [c]) (.sym ((c:Int) - 48))) (.inr (Ae _ _ rfl)) h0' h1' hl (by omega)) λeR r1 r2 r3=>?_;refine(bS eR ?_ (λh=>absurd hl (by omega)) (λY=>?_))
    ·rcases hε with⟨rfl,rfl⟩|⟨x,y,rfl⟩
     ·exact au.oQ (ε₁:=.cons sT (.ak s) (.cons qT (.int 10) (.cons j3 (.int 0) (.cons eU (.ak [c]) .nil)))) ES (λB=>by kernel_rfl) (Ba (i:=0) (.inr ⟨rfl,rfl⟩) (.inl rfl) c0 c1 hmul) r1
     ·exact au.oQ (ε₁:=.cons sT (.ak s) (.cons qT (.int 10) (.cons j3 (.sym i) (.cons eU (.ak [c]) (.cons uS y .nil))))) ES (λB=>by kernel_rfl) (Ba (.inl rfl) (.inr ⟨y,rfl⟩) c0 c1 hmul) r1
    ·refine ah hdp ?_;show∃x y,eR=JW s (.sym (kF (s.drop (j+1)) (i * 10+((c:Int) - 48)))) x y
     by_cases he:j+1=s.length
     ·refine ah (r2 he) (ah (zC (lP he.symm)) ?_);exact Ae _ _ rfl
     ·exact r3 (by omega)
theorem C0(hd:∀c∈s,48≤c/\c≤57)(hs:s.length≤11)(qk:s≠ []):ae (aq f34 K (.cons (.ak s) (.cons (.int 10) .nil))) I (.sym (kF s 0)) I:=by
 have hlen:0<s.length:=zD.mpr qk;refine bQ (ZE (K:=K) (I:=I) hd hs turns 0 0 (NT s (.int 0)) (.inl ⟨rfl,rfl⟩) (Int.le_refl _) (by rw[Int.pow_zero];decide) (fN _) (show s.length - 0<600 by lia)) λeR r1 Y r3=>?_;refine Mg (r3 hlen) λx y kg=>?_;subst kg;replace r1:=t7▸r1;refine ae.call (ns:=[sT,qT]) (E:=.cons sT (.ak s) (.cons qT (.int 10) .nil)) rfl ?_;refine au.seq (σ₁:=I) (E:=NT s (.int 0)) ⟨[],[],trivial,λbC o'=>by kernel_rfl⟩ ?_;refine au.seq (σ₁:=I) (s:=xS (iX eU) (cV sT) JV K (NT s (.int 0))) (au.to r1 λB=>by kernel_rfl) ?_
 have hq:sEq s [] =false:=by
  induction s using bE with
  |nil=>exact absurd rfl qk
  |cons a r=>rfl
 exact⟨hB [false],[sEq s [] =false],⟨hq,trivial⟩,λbC o'=>by kernel_rfl⟩
end
section
variable{K:Kc}{I:List O}{s:S}
theorem Bb:∀(n:Nat)(s:S),(oq n s).length≤s.length
 |0,_=>fN _
 |n+1,[] =>bT _
 |n+1,c::r=>Nat.succ_le_succ (Bb n r)
theorem w8(hd:∀c∈s,48≤c/\c≤57)(hs:s.length≤11)(h34:ae (K 34 (.cons (.ak s) (.cons (.int 10) .nil))) I (.sym (kF s 0)) I):ae (aq f35 K (.cons (.ak s) .nil)) I (.sym (kF s 0)) I:=by
 refine ae.call (ns:=[gj]) (E:=.cons gj (.ak s) .nil) rfl ?_
 have hx:sEq (oq (at_ (j5 s) 2) s) [48,88] =false:=by
  induction s using bE with
  |nil=>rfl
  |cons a r=>induction r using bE with
   |nil=>
    show @Bool.rec (λY=>Bool) false (sEq [] [88]) (aC a 48)=false
    cases aC a 48<;>rfl
   |cons b t=>
    have hb:=hd b (by simp);show @Bool.rec (λY=>Bool) false (@Bool.rec (λY=>Bool) false (sEq [] []) (aC b 88)) (aC a 48)=false
    have:aC b 88=false:=by
     refine cW (aC b 88) (λh=>?_) (λh=>?_)
     ·rfl
     ·have:=eJ h;lia
    refine ah this ?_
    cases aC a 48<;>rfl
 have tw:cY (oq (at_ (j5 s) 2) s)=true:=fG (bb (Bb _ _) (bb (by assumption) (bW _ _)));refine au.seq (σ₁:=I) (E:=.cons gj (.ak s) .nil) ⟨hB [false],[sEq (oq (at_ (j5 s) 2) s) [48,88] =false,cY (oq (at_ (j5 s) 2) s)=true],⟨hx,tw,trivial⟩,λbC o'=>by kernel_rfl⟩ ?_;refine au.seq (σ₁:=I) (E:=.cons gj (.ak s) (.cons 486040022297 (.sym (kF s 0)) .nil)) (au.to (au.and (k:=λv=>RS.dw (eS (.cons gj (.ak s) .nil) 486040022297 v)) h34 (au.out (r:=.dw _))) λB=>by kernel_rfl) ?_;exact⟨[],[],trivial,λbC o'=>by kernel_rfl⟩
end
section
variable{K:Kc}{E ε₁:Env}{I σ₁:List O}{s:S}{x:C}{t:Tg}{v y z w acc:V}{n j:Nat}
theorem ae.wb(hd:∀B,drawn v j B=.fin)(hs:bF (fk acc .nil)=true):ae (dT x t v K E (n+1) j acc) [] (.loc 0) [.list (fk acc .nil)] :=
 (bA [] [] trivial (λbC o'=>by
  show @RD.rec (λY=>RE) RE.no (s_ (fk acc V.nil) ⟨[],bC,o'⟩) (λy=>kI x K (t y E ⟨[],bC,o'⟩) ⟨[],bC,o'⟩ (λz B=>dT x t v K E n (aZ j) (.cons z acc) B)) (drawn v j ⟨[],bC,o'⟩)=_;rw[hd];show @Bool.rec (λY=>RE) RE.no (jg (.list (fk acc .nil)) ⟨[],bC,o'⟩) (bF (fk acc .nil))=_;refine ah hs ?_;rfl))
theorem ae.ET(hd:∀B,drawn v j B=.ok y)(ht:∀B,t y E B=.ok ε₁)(hx:ae (x K ε₁) I z I)(hr:ae (dT x t v K E n (j+1) (.cons z acc)) I w σ₁):ae (dT x t v K E (n+1) j acc) I w σ₁:=
 ae.to (ae.and (k:=λz B=>dT x t v K E n (aZ j) (.cons z acc) B) hx hr) λB=>by
  show @RD.rec (λY=>RE) RE.no (s_ (fk acc V.nil) B) (λy=>kI x K (t y E B) B (λz B=>dT x t v K E n (aZ j) (.cons z acc) B)) (drawn v j B)=_;rw[hd];show kI x K (t y E B) B _=_;rw[ht];rfl
noncomputable def Bc:S->V
 | [] =>.nil
 |c::r=>.cons (.ak [c]) (Bc r)
theorem NU:∀s:S,aO (Bc s)=s.length:=by
 intro zr
 induction zr with
 |nil=>
  exact rfl
 |cons c r bN=>
  exact congrArg aZ (bN)
theorem Gq:∀s:S,joinR [] (Bc s)=.ok s:=by
 intro zr
 induction zr with
 |nil=>
  exact rfl
 |cons c r bN=>
  exact by
   show kH (OS.ok []) (kH (OS.ok [c]) (joinR [] (Bc r)))=_;refine ah (bN) ?_;rfl
theorem JX:∀s:S,xi [] (Bc s)=.ok s:=by
 intro zr
 induction zr with
 |nil=>
  exact rfl
 |cons c r bN=>
  exact by
   show kH (OS.ok [c]) (joinR [] (Bc r))=_;refine ah (Gq r) ?_;rfl
noncomputable abbrev Gr:C:=w0 (mZ .le .le (cC (.str [97])) (cV eU) (cC (.str [122]))) (jE 6 (aH (et .sub (jE 5 (aH (cV eU) ck)) (cC (.int (.ofNat 32)))) ck)) (cV eU)
theorem NV{c:Nat}(hc:BW 97 122 c=false):ae (Gr K (.cons bY (.ak s) (.cons eU (.ak [c]) .nil))) I (.ak [c]) I:=by
 unfold BW at hc;refine cBool (FG [97] [c]) (λh1=>?_) (λh1=>?_)
 ·exact⟨hB [false],[FG [97] [c] =false],⟨h1,trivial⟩,λbC o'=>by kernel_rfl⟩
 ·rw[h1,Bool.true_and] at hc;exact⟨hB [true,false],[FG [c] [122] =false,FG [97] [c] =true],(bL hc h1 trivial),λbC o'=>by kernel_rfl⟩
theorem ZF(hc:∀c∈s,BW 97 122 c=false)(hs:s.length≤500):∀(n j:Nat)(acc:V),pO acc=true->fk acc .nil=Bc (s.take j)->j≤s.length->s.length - j<n->ae (dT Gr (iX eU) (.ak s) K (.cons bY (.ak s) .nil) n j acc) [] (.loc 0) [.list (Bc s)] :=by
 intro zr
 induction zr with
 |zero=>
  exact @λ_ _ _ _ _ h=>absurd h (eA _)
 |succ n bN=>
  exact @λj acc hl ha hj hn=>by
   refine kY (s[j]?) (λhg=>?_) (λc hg=>?_)
   ·have hle:s.length≤j:=iP.mp hg
    have ES:∀B,drawn (.ak s) j B=.fin:=λB=>by
     show xj (Hc false (mB s j))=_;rw[fh,hg];rfl
    have ha:fk acc .nil=Bc s:=by exact ah ha (ah (nZ hle) rfl)
    have tw:bF (fk acc .nil)=true:=by
     refine ah ha ?_;show bB (aO (Bc s)) 10000=true;rw[NU];exact ez.mpr (by lia)
    have:=ae.wb (K:=K) (x:=Gr) (t:=iX eU) (E:=.cons bY (.ak s) .nil) (n:=n) ES tw;rwa [ha] at this
   ·have hW:j<s.length:=(cA.mp hg).1
    have ES:∀B,drawn (.ak s) j B=.ok (.ak [c]):=λB=>by
     show xj (Hc false (mB s j))=_;rw[fh,hg];rfl
    refine ae.ET (ε₁:=.cons bY (.ak s) (.cons eU (.ak [c]) .nil)) ES (λB=>by kernel_rfl) (NV (hc c (jv hg))) ?_;refine bN (j+1) (.cons (.ak [c]) acc) hl ?_ hW (by omega);show fk acc (.cons (.ak [c]) .nil)=_;refine ah (vZ _ hl) (ah ha (ah List.take_succ (ah hg ?_)))
    have app:∀l:S,a_ (Bc l) (.cons (.ak [c]) .nil)=Bc (l++[c]):=by
     intro l
     induction l with
     |nil=>rfl
     |cons a r ih=>exact congrArg (V.cons (.ak [a])) ih
    exact app _
theorem Be(hc:∀c∈s,BW 97 122 c=false)(hs:s.length≤500)(qk:s≠ []):ae (aq Zv K (.cons (.ak s) .nil)) [] (.ak s) [.list (Bc s)] :=by
 refine ae.call (ns:=[bY]) (E:=.cons bY (.ak s) .nil) rfl (au.iI (au.and ?_ (au.out (r:=.ret _))));have h:=ZF (K:=K) hc hs turns 0 .nil rfl rfl (fN _) (show s.length - 0<600 by exact dR (by assumption) (by decide));refine a6 h λh1 o1 p1 e1=>?_;clear h;refine(bA h1 ((cY s=true)::o1) ⟨fG hs,p1⟩ (λbC o'=>?_));have step:∀B,FN .join (cC (.str [])) (aH (j7 [12640,eU] Gr (iX eU) (cV bY)) ck) K (.cons bY (.ak s) .nil) B=cw (cw (dT Gr (iX eU) (.ak s) K (.cons bY (.ak s) .nil) turns 0 .nil B) λv B=>RE.ok (.cons v .nil) B) (lU .join (.str [])):=λB=>by kernel_rfl
 show FN .join (cC (.str [])) (aH (j7 [12640,eU] Gr (iX eU) (cV bY)) ck) K (.cons bY (.ak s) .nil) _=_;rw[step,e1];show Hz (.str []) (.loc 0) ⟨[.list (Bc s)],bC,o1++o'⟩=_;show xO (Py (Bc s)) (xi [] (Bc s)) ⟨[.list (Bc s)],bC,o1++o'⟩=_;rw[JX]
 induction s using bE with
 |nil=>exact absurd rfl qk
 |cons c r=>rfl
end
section
variable{K:Kc}{I σ₁:List O}{s:S}{i e c:Nat}{E:Env}{a b d:C}
theorem yH(ha:∀B,a K E B=RE.ok (.ak s) B)(hb:∀B,b K E B=RE.ok (.sym (i:Int)) B)(hs:s.length≤500)(hc:s[i]? =some c):ae (h_ a b K E) I (.ak [c]) I:=by
 have hi:i<s.length:=(cA.mp hc).1;have hn:mB s (dz (i:Int))=[c] :=by rw[fh,gU,hc]
 refine eV hn ?_;refine ae.to (ae.m9 (yE hs hi)) λB=>?_;show cw (a K E B) _=_;rw[ha];show cw (b K E B) _=_;rw[hb]
 rfl
noncomputable def yI(s:S)(i e:Nat):S:=z6 (dz (i:Int)) (oq (dz (e:Int)) s)
theorem mi:yI s i e=(s.take e).drop i:=by unfold yI;rw[o_,pa,gU,gU]
theorem EU(ha:∀B,a K E B=RE.ok (.ak s) B)(hb:∀B,b K E B=RE.ok (.sym (i:Int)) B)(hd:∀B,d K E B=RE.ok (.sym (e:Int)) B)(hs:s.length≤500):ae (vb a b d K E) I (.ak (yI s i e)) I:=by
 have h0:∀n:Nat,mY 0 (n:Int)=true:=λn=>by rw[eL];exact decide_eq_true (b9 _)
 have hl:(yI s i e).length≤500:=by
  refine ah mi (ah lF (ah gp ?_));omega
 refine(bA [] [cY (yI s i e)=true,mY 0 (i:Int)=true,mY 0 (e:Int)=true] (ib (fG hl) (h0 i) (h0 e) trivial) (λbC o'=>?_));show cw (a K E _) _=_;rw[ha];show cw (b K E _) _=_;rw[hb];show cw (d K E _) _=_;rw[hd]
 rfl
end
section
variable{K:Kc}{I σ₁:List O}{s:S}{i e c:Nat}{E:Env}
theorem w9{d:S}(hs:s.length≤500)(hc:s[i]? =some c)(hf:z5 c [36,37] =false)(hd:yI s i e=d)(h0:0≤kF d 0)(hv:kF d 0≤65535)
  (yJ:ae (K 33 (.cons (.ak s) (.cons (.sym (i:Int)) .nil))) I (.sym (e:Int)) I) (JY:ae (K 32 (.cons (.ak d) .nil)) I (.ak d) I) (h35:ae (K 35 (.cons (.ak d) .nil)) I (.sym (kF d 0)) I):
  ae (aq f37 K (.cons (.ak s) (.cons (.sym (i:Int)) .nil))) I (.tup (.cons (.tup (.cons (.str [110,117,109,98,101,114]) (.cons (.sym (kF d 0)) .nil))) (.cons (.sym (e:Int)) .nil))) I:=by
 refine ae.call (ns:=[aJ,aB]) (E:=.cons aJ (.ak s) (.cons aB (.sym (i:Int)) .nil)) rfl ?_;refine au.seq (σ₁:=I) (E:=.cons aJ (.ak s) (.cons aB (.sym (i:Int)) (.cons hU (.sym (i:Int)) .nil))) (au.to (au.and (k:=λv=>RS.dw (eS (.cons aJ (.ak s) (.cons aB (.sym (i:Int)) .nil)) hU v)) (ae.ite (σ₁:=I) (b:=false) (c:=λB=>kE (gd .BO (h_ (cV aJ) (cV aB)) (cC (.str [36,37])) K (.cons aJ (.ak s) (.cons aB (.sym (i:Int)) .nil)) B)) (f:=et .add (cV aB) (cC (.int (.ofNat 1))) K (.cons aJ (.ak s) (.cons aB (.sym (i:Int)) .nil))) (g:=cV aB K (.cons aJ (.ak s) (.cons aB (.sym (i:Int)) .nil))) (br.qW ?_) (v:=.sym (i:Int)) ⟨[],[],trivial,λbC o'=>by kernel_rfl⟩) (au.out (r:=.dw _))) λB=>rfl) ?_
 ·refine ae.to (ae.and (k:=λv B=>u_ .BO v (.str [36,37]) B) (yH (K:=K) (E:=.cons aJ (.ak s) (.cons aB (.sym (i:Int)) .nil)) (a:=cV aJ) (b:=cV aB) (λB=>by kernel_rfl) (λB=>by kernel_rfl) hs hc) ?_) λB=>by kernel_rfl
  exact⟨hB [false],[z5 c [36,37] =false],⟨hf,trivial⟩,λbC o'=>by kernel_rfl⟩
 refine au.seq (σ₁:=I) (E:=.cons aJ (.ak s) (.cons aB (.sym (i:Int)) (.cons hU (.sym (i:Int)) (.cons gy (.sym (e:Int)) .nil)))) (au.to (au.and (k:=λv=>RS.dw (eS (.cons aJ (.ak s) (.cons aB (.sym (i:Int)) (.cons hU (.sym (i:Int)) .nil))) gy v)) yJ (au.out (r:=.dw _))) λB=>by kernel_rfl) ?_;refine au.seq (σ₁:=I) (E:=.cons aJ (.ak s) (.cons aB (.sym (i:Int)) (.cons hU (.sym (i:Int)) (.cons gy (.sym (e:Int)) (.cons gj (.ak d) .nil))))) ?_ ?_
 ·refine au.to (au.and (k:=λv=>RS.dw (eS (.cons aJ (.ak s) (.cons aB (.sym (i:Int)) (.cons hU (.sym (i:Int)) (.cons gy (.sym (e:Int)) .nil)))) gj v)) (ae.and (k:=λv B=>K 32 (.cons v .nil) B) (EU (i:=i) (e:=e) (K:=K) (E:=.cons aJ (.ak s) (.cons aB (.sym (i:Int)) (.cons hU (.sym (i:Int)) (.cons gy (.sym (e:Int)) .nil)))) (a:=cV aJ) (b:=cV hU) (d:=cV gy) (λB=>by kernel_rfl) (λB=>by kernel_rfl) (λB=>by kernel_rfl) hs) (by refine ah hd ?_;exact JY)) (au.out (r:=.dw _))) λB=>?_;show iY (cw (cw (vb (cV aJ) (cV hU) (cV gy) K _ B) λv B=>cw (ck K _ B) λl B=>RE.ok (.cons v l) B) (K 32)) _=iY (cw (vb (cV aJ) (cV hU) (cV gy) K _ B) λv B=>K 32 (.cons v .nil) B) _
  cases vb (cV aJ) (cV hU) (cV gy) K (.cons aJ (.ak s) (.cons aB (.sym (i:Int)) (.cons hU (.sym (i:Int)) (.cons gy (.sym (e:Int)) .nil)))) B<;>rfl
 have he:rX (i:Int) (i:Int)=true:=by rw[iG];exact decide_eq_true rfl
 refine au.seq (σ₁:=I) (E:=.cons aJ (.ak s) (.cons aB (.sym (i:Int)) (.cons hU (.sym (i:Int)) (.cons gy (.sym (e:Int)) (.cons gj (.ak d) (.cons gz (.sym (kF d 0)) .nil)))))) ?_ ?_
 ·refine au.to (au.and (σ₁:=I) (k:=λv=>RS.dw (eS (.cons aJ (.ak s) (.cons aB (.sym (i:Int)) (.cons hU (.sym (i:Int)) (.cons gy (.sym (e:Int)) (.cons gj (.ak d) .nil))))) gz v)) (ae.ite (σ₁:=I) (b:=true) (c:=λB=>kE (gd .eq (cV hU) (cV aB) K (.cons aJ (.ak s) (.cons aB (.sym (i:Int)) (.cons hU (.sym (i:Int)) (.cons gy (.sym (e:Int)) (.cons gj (.ak d) .nil))))) B)) (f:=K 35 (.cons (.ak d) .nil)) (g:=rZ 34 (aH (cV gj) (aH (w0 (gd .eq (h_ (cV aJ) (cV aB)) (cC (.str [36]))) (cC (.int (.ofNat 16))) (cC (.int (.ofNat 2)))) ck)) K (.cons aJ (.ak s) (.cons aB (.sym (i:Int)) (.cons hU (.sym (i:Int)) (.cons gy (.sym (e:Int)) (.cons gj (.ak d) .nil)))))) (br.qW ⟨hB [true],[rX (i:Int) (i:Int)=true],⟨he,trivial⟩,λbC o'=>by kernel_rfl⟩) h35) (au.out (r:=.dw _))) λB=>by kernel_rfl
 have hg:BZ (kF d 0) 65535=false:=by rw[x5];exact decide_eq_false (gS.mpr (by assumption))
 refine au.seq (σ₁:=I) (E:=.cons aJ (.ak s) (.cons aB (.sym (i:Int)) (.cons hU (.sym (i:Int)) (.cons gy (.sym (e:Int)) (.cons gj (.ak d) (.cons gz (.sym (kF d 0)) .nil)))))) ⟨hB [false],[BZ (kF d 0) 65535=false],⟨hg,trivial⟩,λbC o'=>by kernel_rfl⟩ ?_;exact⟨[],[],trivial,λbC o'=>by kernel_rfl⟩
end
section
variable{K:Kc}{I σ₁:List O}{s:S}{i e c:Nat}{E:Env}
theorem yK{v:V}(hs:s.length≤500)(hc:s[i]? =some c)(h36:sEq [c] [36] =false)(V9:sEq [c] [37] =false)(JY:ae (K 32 (.cons (.ak (yI s (i+1) (i+2))) .nil)) I v I):
  ae (aq f38 K (.cons (.ak s) (.cons (.sym (i:Int)) .nil))) I (.bool false) I:=by
 refine ae.call (ns:=[aJ,aB]) (E:=.cons aJ (.ak s) (.cons aB (.sym (i:Int)) .nil)) rfl ?_;refine au.seq (σ₁:=I) (E:=.cons aJ (.ak s) (.cons aB (.sym (i:Int)) (.cons pS v .nil))) ?_ ?_
 ·refine au.to (au.and (σ₁:=I) (k:=λv=>RS.dw (eS (.cons aJ (.ak s) (.cons aB (.sym (i:Int)) .nil)) pS v)) (ae.and (σ₁:=I) (k:=λv B=>K 32 (.cons v .nil) B) (EU (i:=i+1) (e:=i+2) (K:=K) (E:=.cons aJ (.ak s) (.cons aB (.sym (i:Int)) .nil)) (a:=cV aJ) (b:=et .add (cV aB) (cC (.int (.ofNat 1)))) (d:=et .add (cV aB) (cC (.int (.ofNat 2)))) (λB=>by kernel_rfl) (λB=>by kernel_rfl) (λB=>by kernel_rfl) hs) JY) (au.out (r:=.dw _))) λB=>?_;show iY (cw (cw (vb (cV aJ) (et .add (cV aB) (cC (.int (.ofNat 1)))) (et .add (cV aB) (cC (.int (.ofNat 2)))) K _ B) λv B=>cw (ck K _ B) λl B=>RE.ok (.cons v l) B) (K 32)) _=iY (cw (vb (cV aJ) (et .add (cV aB) (cC (.int (.ofNat 1)))) (et .add (cV aB) (cC (.int (.ofNat 2)))) K _ B) λv B=>K 32 (.cons v .nil) B) _
  cases vb (cV aJ) (et .add (cV aB) (cC (.int (.ofNat 1)))) (et .add (cV aB) (cC (.int (.ofNat 2)))) K (.cons aJ (.ak s) (.cons aB (.sym (i:Int)) .nil)) B<;>rfl
 have test:∀y:Nat,sEq [c] [y] =false->ae (gd .eq (h_ (cV aJ) (cV aB)) (cC (.str [y])) K (.cons aJ (.ak s) (.cons aB (.sym (i:Int)) (.cons pS v .nil)))) I (.bool false) I:=λy hy=>by
  refine ae.to (ae.and (σ₁:=I) (k:=λv B=>u_ .eq v (.str [y]) B) (yH (K:=K) (E:=.cons aJ (.ak s) (.cons aB (.sym (i:Int)) (.cons pS v .nil))) (a:=cV aJ) (b:=cV aB) (λB=>by kernel_rfl) (λB=>by kernel_rfl) hs hc) ?_) λB=>rfl;exact⟨hB [false],[sEq [c] [y] =false],⟨hy,trivial⟩,λbC o'=>by kernel_rfl⟩
 refine au.seq (σ₁:=I) (E:=.cons aJ (.ak s) (.cons aB (.sym (i:Int)) (.cons pS v .nil))) (au.to (au.ite (σ₁:=I) (b:=false) (br.qW (test 36 h36)) (au.out (r:=.dw _))) λB=>rfl) ?_;refine au.iI (au.and (σ₁:=I) (k:=RS.ret) (v:=.bool false) ?_ (au.out (r:=.ret _)))
 have:=yB (K:=K) (E:=.cons aJ (.ak s) (.cons aB (.sym (i:Int)) (.cons pS v .nil))) (I:=I) (a:=gd .eq (h_ (cV aJ) (cV aB)) (cC (.str [37]))) (b:=gd .BO (cV pS) (pV (aH (cC (.str [48])) (aH (cC (.str [49])) ck)))) (p:=false) (q:=false) (test 37 V9) (λh=>by exact absurd h nT);exact this
end
section
variable{K:Kc}{I σ₁:List O}{s:S}{i e c:Nat}{E:Env}
theorem w_{v:V}(hs:s.length≤500)(hc:s[i]? =some c)(v_:ae (K 30 (.cons (.ak [c]) .nil)) I (.bool true) I)(V9:ae (K 37 (.cons (.ak s) (.cons (.sym (i:Int)) .nil))) I v I):
  ae (aq NN K (.cons (.ak s) (.cons (.sym (i:Int)) .nil))) I v I:=by
 refine ae.call (ns:=[aJ,aB]) (E:=.cons aJ (.ak s) (.cons aB (.sym (i:Int)) .nil)) rfl ?_;refine au.seq (σ₁:=I) (E:=.cons aJ (.ak s) (.cons aB (.sym (i:Int)) (.cons eU (.ak [c]) .nil))) (au.to (au.and (σ₁:=I) (k:=λv=>RS.dw (eS (.cons aJ (.ak s) (.cons aB (.sym (i:Int)) .nil)) eU v)) (yH (K:=K) (E:=.cons aJ (.ak s) (.cons aB (.sym (i:Int)) .nil)) (a:=cV aJ) (b:=cV aB) (λB=>by kernel_rfl) (λB=>by kernel_rfl) hs hc) (au.out (r:=.dw _))) λB=>rfl) ?_;have hor:=yA (K:=K) (E:=.cons aJ (.ak s) (.cons aB (.sym (i:Int)) (.cons eU (.ak [c]) .nil))) (I:=I) (a:=rZ 30 (aH (cV eU) ck)) (b:=rZ 38 (aH (cV aJ) (aH (cV aB) ck))) (p:=true) (q:=false) (ae.to v_ λB=>by kernel_rfl) (λh=>by exact absurd h nF);refine au.iI (au.to (au.ite (σ₁:=I) (b:=true) (f:=bI (vd (rZ 37 (aH (cV aJ) (aH (cV aB) ck)))) fm K (.cons aJ (.ak s) (.cons aB (.sym (i:Int)) (.cons eU (.ak [c]) .nil)))) (g:=RS.dw (.cons aJ (.ak s) (.cons aB (.sym (i:Int)) (.cons eU (.ak [c]) .nil)))) (br.qW hor) (au.to (au.iI (k:=fm K) (au.and (σ₁:=I) (k:=RS.ret) V9 (au.out (r:=.ret v)))) λB=>by kernel_rfl)) λB=>rfl)
end
section
variable{K:Kc}{E ε₁:Env}{I σ₁ σ₂ σ₃:List O}{v w x y l:V}{a b c d:C}{r s t e:CS}{q:Bool}{o:Out}{n m:Nat}
theorem bV:ae (cC v K E) I v I:=ae.ok
theorem aI(h:a8 E n=.ok v):ae (cV n K E) I v I:=ae.to ae.ok λB=>by show ze (a8 E n) B=_;refine ah h ?_;rfl
theorem aF:ae (ck K E) I .nil I:=ae.ok
theorem ai(h:ae (a K E) I v σ₁)(g:ae (b K E) σ₁ l σ₂):ae (aH a b K E) I (.cons v l) σ₂:=ae.and h (ae.and g ae.ok)
theorem eG{f:Nat}(h:ae (a K E) I l σ₁)(g:ae (K f l) σ₁ v σ₂):ae (rZ f a K E) I v σ₂:=ae.and h g
theorem cn{op:hV}(h:ae (a K E) I v σ₁)(g:ae (b K E) σ₁ w σ₂)(k:ae (rY op v w) σ₂ x σ₃):ae (et op a b K E) I x σ₃:=ae.and h (ae.and g k)
theorem bu{op:xg}(h:ae (a K E) I v σ₁)(g:ae (b K E) σ₁ w σ₂)(k:br (fy op v w) σ₂ q σ₃):ae (gd op a b K E) I (.bool q) σ₃:=ae.and h (ae.and g (ae.bool k))
theorem EV(h:ae (a K E) I (.bool q) σ₁):ae (xR a K E) I (.bool (pT q)) σ₁:=ae.bool (br.neg (br.qW h))
theorem iJ(h:ae (a K E) I (.bool false) σ₁):ae (u9 a b K E) I (.bool false) σ₁:=ae.ite (br.qW h) ae.ok
theorem g_(h:ae (a K E) I (.bool true) σ₁)(g:ae (b K E) σ₁ v σ₂):ae (u9 a b K E) I v σ₂:=ae.ite (br.qW h) g
theorem U4(h:ae (a K E) I (.bool true) σ₁):ae (WJ a b K E) I (.bool true) σ₁:=ae.ite (br.qW h) ae.ok
theorem oR(h:ae (a K E) I (.bool false) σ₁)(g:ae (b K E) σ₁ v σ₂):ae (WJ a b K E) I v σ₂:=ae.ite (br.qW h) g
theorem EW(h:ae (c K E) I (.bool true) σ₁)(g:ae (a K E) σ₁ v σ₂):ae (w0 c a b K E) I v σ₂:=ae.ite (br.qW h) g
theorem EX(h:ae (c K E) I (.bool false) σ₁)(g:ae (b K E) σ₁ v σ₂):ae (w0 c a b K E) I v σ₂:=ae.ite (br.qW h) g
theorem fi(h:ae (a K E) I v σ₁)(g:ae (b K E) σ₁ w σ₂)(k:ae (qX v w) σ₂ x σ₃):ae (h_ a b K E) I x σ₃:=ae.and h (ae.and g k)
theorem hH(h:ae (a K E) I l σ₁)(g:bF l=true):ae (pV a K E) I (.tup l) σ₁:=ae.and h (ae.to ae.ok λB=>by show @Bool.rec (λY=>RE) RE.no (RE.ok (.tup l) B) (bF l)=_;exact ah g rfl)
theorem fj(h:ae (a K E) I l σ₁)(g:ae (wY n l) σ₁ v σ₂):ae (jE n a K E) I v σ₂:=ae.and h g
theorem JZ(h:ae (a K E) I w σ₁)(g:ae (xk n w) σ₁ v σ₂):ae (dZ a n K E) I v σ₂:=ae.and h g
theorem ZG(h:ae (a K E) I w σ₁)(g:ae (L6 Int.neg w) σ₁ v σ₂):ae (L_ a K E) I v σ₂:=ae.and h g
theorem ZH(h:ae (a K E) I v σ₁):au (m_ n a K E) I (.dw (eS E n v)) σ₁:=au.and h (au.out (r:=.dw _))
theorem d5(h:ae (a K E) I v σ₁)(g:au (r K (eS E n v)) σ₁ o σ₂):au (bI (m_ n a) r K E) I o σ₂:=au.seq (ZH h) g
theorem ef(h:ae (a K E) I v σ₁):au (bI (vd a) r K E) I (.ret v) σ₁:=au.iI (au.and h (au.out (r:=.ret v)))
theorem dx:au (fm K E) I (.dw E) I:=au.out (r:=.dw E)
theorem U5(h:au (s K E) I (.dw ε₁) σ₁)(g:au (r K ε₁) σ₁ o σ₂):au (bI s r K E) I o σ₂:=au.seq h g
theorem kq(h:ae (c K E) I (.bool true) σ₁)(g:au (t K E) σ₁ (.ret v) σ₂):au (bI (B8 c t e) r K E) I (.ret v) σ₂:=au.iI (au.ite (br.qW h) g)
theorem bU(h:ae (c K E) I (.bool false) σ₁)(g:au (r K E) σ₁ o σ₂):au (bI (B8 c t fm) r K E) I o σ₂:=au.seq (au.ite (br.qW h) (dx (K:=K))) g
theorem NW{q:Bool}(h:ae (c K E) I (.bool q) σ₁)(g:au ((bif q then t else e) K E) σ₁ (.dw ε₁) σ₂)(k:au (r K ε₁) σ₂ o σ₃):au (bI (B8 c t e) r K E) I o σ₃:=au.seq (au.ite (br.qW h) (by induction q<;>exact g)) k
theorem kr{tg:Tg}(h:ae (a K E) I v σ₁)(ht:∀h o,tg v E ⟨σ₁,h,o⟩=.ok ε₁)(g:au (r K ε₁) σ₁ o σ₂):au (bI (w1 tg a) r K E) I o σ₂:=by
 refine au.seq (σ₁:=σ₁) (E:=ε₁) (au.and h (bA [] [] trivial (λbC o'=>?_))) g;show Md (tg v E ⟨σ₁,_,_⟩) _=_;rw[ht];rfl
theorem i9(h:ae (a K E) I .none σ₁)(g:au (r K E) σ₁ o σ₂):au (bI (r6 a) r K E) I o σ₂:=au.seq (au.and h (au.out (r:=.dw E))) g
theorem wc{u u':S}:br (fy .eq (.ak u) (.str u')) I (sEq u u') I:=br.ask
theorem J0{u u':S}:br (fy .ne (.ak u) (.str u')) I (pT (sEq u u')) I:=br.neg br.ask
theorem EY{u:S}{k:Nat}:br (fy .BO (.ak [k]) (.str u)) I (z5 k u) I:=br.ask
theorem yL{u:S}{i k:Nat}(hs:u.length≤500)(hc:u[i]? =some k):ae (qX (.ak u) (.sym (i:Int))) I (.ak [k]) I:=by
 have hi:i<u.length:=(cA.mp hc).1;have hn:mB u (dz (i:Int))=[k] :=by rw[fh,gU,hc]
 refine eV hn ?_;exact ae.m9 (yE hs hi)
theorem Bf{u:S}{i e:Nat}(ha:ae (a K E) I (.ak u) I)(hb:ae (b K E) I (.sym (i:Int)) I)(hd:ae (d K E) I (.sym (e:Int)) I)(hs:u.length≤500):ae (vb a b d K E) I (.ak ((u.take e).drop i)) I:=by
 have h0:∀n:Nat,mY 0 (n:Int)=true:=λn=>by rw[eL];exact decide_eq_true (b9 _)
 have hl:(yI u i e).length≤500:=by
  refine ah mi (ah lF (ah gp ?_));omega
 refine eV mi ?_;refine ae.and ha (ae.and hb (ae.and hd (bA [] [cY (yI u i e)=true,mY 0 (i:Int)=true,mY 0 (e:Int)=true] (ib (fG hl) (h0 i) (h0 e) trivial) (λbC o'=>rfl))))
theorem Bg{i k:Nat}(ha:ae (a K E) I (.sym (i:Int)) σ₁):ae (et .add a (cC (.int (.ofNat k))) K E) I (.sym ((i+k:Nat):Int)) σ₁:=
 cn ha bV (ae.to ae.ok λB=>by rfl)
end
section
variable{K:Kc}{I σ₁:List O}{s d:S}{i e c:Nat}{E:Env}
noncomputable abbrev dt(k:S)(v:V):V:=.tup (.cons (.str k) (.cons v .nil))
noncomputable abbrev pF:S:=[110,117,109,98,101,114]
noncomputable abbrev eN:S:=[110,97,109,101]
noncomputable abbrev EZ:S:=[115,105,103,110]
noncomputable abbrev C1(s:S)(i:Nat):V:=.cons (.ak s) (.cons (.sym (i:Int)) .nil)
theorem we{v w:V}{op:xg}{q q':Bool}(e:q=q')(h:br (fy op v w) I q I):br (fy op v w) I q' I:=e▸h
theorem wg(hs:s.length≤500)(hc:s[i]? =some c)(v_:ae (K 30 (.cons (.ak [c]) .nil)) I (.bool false) I)(LQ:ae (K 38 (C1 s i)) I (.bool false) I)(xB:ae (K 29 (.cons (.ak [c]) .nil)) I (.bool true) I)
  (yJ:ae (K 33 (C1 s i)) I (.sym (e:Int)) I) (JY:ae (K 32 (.cons (.ak ((s.take e).drop i)) .nil)) I (.ak d) I) (Qw:sEq d [65,70] =false∨sEq ((s.take (e+1)).drop e) [39] =false):
  ae (aq NN K (C1 s i)) I (.tup (.cons (dt eN (.ak d)) (.cons (.sym (e:Int)) .nil))) I:=by
 refine ae.call (ns:=[aJ,aB]) rfl ?_;refine d5 (fi (aI rfl) (aI rfl) (yL hs hc)) ?_;refine bU (oR (eG (ai (aI rfl) aF) v_) (eG (ai (aI rfl) (ai (aI rfl) aF)) LQ)) ?_;refine kq (eG (ai (aI rfl) aF) xB) ?_;refine d5 (eG (ai (aI rfl) (ai (aI rfl) aF)) yJ) ?_;refine d5 (eG (ai (Bf (aI rfl) (aI rfl) (aI rfl) hs) aF) JY) ?_;refine bU ?_ (ef (hH (ai (hH (ai bV (ai (aI rfl) aF)) rfl) (ai (aI rfl) aF)) rfl));refine cBool (sEq d [65,70]) (λh=>?_) (λh=>?_)
 ·exact iJ (bu (aI rfl) bV (we h wc))
 ·rcases Qw with Qw|Qw
  ·replace h:=Qw▸h;exact absurd h nT
  ·exact g_ (bu (aI rfl) bV (we h wc)) (bu (Bf (aI rfl) (aI rfl) (Bg (k:=1) (aI rfl)) hs) bV (we Qw wc))
theorem yM(hs:s.length≤500)(hc:s[i]? =some c)(v_:ae (K 30 (.cons (.ak [c]) .nil)) I (.bool false) I)(LQ:ae (K 38 (C1 s i)) I (.bool false) I)(xB:ae (K 29 (.cons (.ak [c]) .nil)) I (.bool true) I)
  (yJ:ae (K 33 (C1 s i)) I (.sym (e:Int)) I) (JY:ae (K 32 (.cons (.ak ((s.take e).drop i)) .nil)) I (.ak d) I) (h1:sEq d [65,70] =true) (h2:sEq ((s.take (e+1)).drop e) [39] =true):
  ae (aq NN K (C1 s i)) I (.tup (.cons (dt eN (.str [65,70,39])) (.cons (.sym ((e+1:Nat):Int)) .nil))) I:=by
 refine ae.call (ns:=[aJ,aB]) rfl ?_;refine d5 (fi (aI rfl) (aI rfl) (yL hs hc)) ?_;refine bU (oR (eG (ai (aI rfl) aF) v_) (eG (ai (aI rfl) (ai (aI rfl) aF)) LQ)) ?_;refine kq (eG (ai (aI rfl) aF) xB) ?_;refine d5 (eG (ai (aI rfl) (ai (aI rfl) aF)) yJ) ?_;refine d5 (eG (ai (Bf (aI rfl) (aI rfl) (aI rfl) hs) aF) JY) ?_;refine kq (g_ (bu (aI rfl) bV (we h1 wc)) (bu (Bf (aI rfl) (aI rfl) (Bg (k:=1) (aI rfl)) hs) bV (we h2 wc))) (ef (hH (ai (hH (ai bV (ai bV aF)) rfl) (ai (Bg (k:=1) (aI rfl)) aF)) rfl))
theorem NX{u:S}(h1:sEq [60,62] u=false)(h2:sEq [60,61] u=false)(h3:sEq [62,61] u=false):br (fy .BO (.ak u) (.tup (.cons (.str [60,62]) (.cons (.str [60,61]) (.cons (.str [62,61]) .nil))))) I false I:=
 ⟨hB [false,false,false],[sEq [62,61] u=false,sEq [60,61] u=false,sEq [60,62] u=false],(ib h3 h2 h1 trivial),λbC o'=>by kernel_rfl⟩
theorem wh(hs:s.length≤500)(hc:s[i]? =some c)(v_:ae (K 30 (.cons (.ak [c]) .nil)) I (.bool false) I)(LQ:ae (K 38 (C1 s i)) I (.bool false) I)(xB:ae (K 29 (.cons (.ak [c]) .nil)) I (.bool false) I)
  (hq:z5 c [39,34] =false) (h1:sEq [60,62] ((s.take (i+2)).drop i)=false) (h2:sEq [60,61] ((s.take (i+2)).drop i)=false) (h3:sEq [62,61] ((s.take (i+2)).drop i)=false) (hg:z5 c [43,45,42,47,40,41,44,61,60,62,58,36] =true):
  ae (aq NN K (C1 s i)) I (.tup (.cons (dt EZ (.ak [c])) (.cons (.sym ((i+1:Nat):Int)) .nil))) I:=by
 refine ae.call (ns:=[aJ,aB]) rfl ?_;refine d5 (fi (aI rfl) (aI rfl) (yL hs hc)) ?_;refine bU (oR (eG (ai (aI rfl) aF) v_) (eG (ai (aI rfl) (ai (aI rfl) aF)) LQ)) ?_;refine bU (eG (ai (aI rfl) aF) xB) ?_;refine bU (bu (aI rfl) bV (we hq EY)) ?_;refine bU (bu (Bf (aI rfl) (aI rfl) (Bg (k:=2) (aI rfl)) hs) bV (NX h1 h2 h3)) ?_;exact kq (bu (aI rfl) bV (we hg EY)) (ef (hH (ai (hH (ai bV (ai (aI rfl) aF)) rfl) (ai (Bg (k:=1) (aI rfl)) aF)) rfl))
end
theorem Gu:∀(f n:Nat)(r:S),n<f->kF (iW f n r) 0=kF r (n:Int):=by
 intro zr
 induction zr with
 |zero=>
  exact @λn r h=>absurd h (eA _)
 |succ f bN=>
  exact @λn r h=>by
   show kF (@Bool.rec (λY=>S) (iW f (n / 10) ((48+n % 10)::r)) ((48+n)::r) (a9 n 10)) 0=_;refine cW (a9 n 10) (λhb=>?_) (λhb=>?_);rotate_left
   ·show kF r (0 * 10+(((48+n:Nat):Int) - 48))=_
    congr 1;omega
   ·have hn:¬n<10:=λq=>by replace hb:=(cF.mpr q)▸hb;exact absurd hb nF
    show kF (iW f (n / 10) ((48+n % 10)::r)) 0=_;refine ah (bN (n / 10) _ (by omega)) ?_;show kF r (((n / 10:Nat):Int)* 10+(((48+n % 10:Nat):Int) - 48))=_
    congr 1;omega
theorem C2:∀(f n:Nat)(r:S),n<f->(∀c∈r,48≤c/\c≤57)->∀c∈iW f n r,48≤c/\c≤57:=by
 intro zr
 induction zr with
 |zero=>
  exact @λn r h _=>absurd h (eA _)
 |succ f bN=>
  exact @λn r h hr=>by
   show∀c∈ @Bool.rec (λY=>S) (iW f (n / 10) ((48+n % 10)::r)) ((48+n)::r) (a9 n 10),_;refine cW (a9 n 10) (λhb=>?_) (λhb=>?_);rotate_left
   ·have hn:=cF.mp hb;intro c hc
    rcases aR.mp hc with rfl|hc
    ·omega
    ·exact hr c hc
   ·have hn:¬n<10:=λq=>by replace hb:=(cF.mpr q)▸hb;exact absurd hb nF
    refine bN (n / 10) _ (by omega) λc hc=>?_
    rcases aR.mp hc with rfl|hc
    ·omega
    ·exact hr c hc
theorem J2(n:Nat):kF (fS (ab n)) 0=(n:Int):=Gu (n+1) n [] (jA n)
theorem pk(n:Nat):∀c∈fS (ab n),48≤c/\c≤57:=C2 (n+1) n [] (jA n) λY h=>nomatch h
theorem Gx:∀(f n k:Nat)(r:S),n<f->n<10 ^ (k+1)->(iW f n r).length≤k+1+r.length/\r.length< (iW f n r).length:=by
 intro zr
 induction zr with
 |zero=>
  exact @λn k r h _=>absurd h (eA _)
 |succ f bN=>
  exact @λn k r h hk=>by
   show(@Bool.rec (λY=>S) (iW f (n / 10) ((48+n % 10)::r)) ((48+n)::r) (a9 n 10)).length≤_/\_< (@Bool.rec (λY=>S) (iW f (n / 10) ((48+n % 10)::r)) ((48+n)::r) (a9 n 10)).length;refine cW (a9 n 10) (λhb=>?_) (λhb=>?_);rotate_left
   ·exact⟨by show r.length+1≤_;lia,by show r.length<r.length+1;exact bT _⟩
   ·have hn:¬n<10:=λq=>by replace hb:=(cF.mpr q)▸hb;exact absurd hb nF
    induction k using dM with
    |zero=>exact absurd hk (by simpa using hn)
    |succ k=>
     have h1:n / 10<10 ^ (k+1):=by
      rw[um] at hk;omega
     refine aD (bN (n / 10) k ((48+n % 10)::r) (by omega) h1) λa b=>?_;rw[ey] at a b;exact⟨by show(iW f (n / 10) _).length≤_;omega,by show _< (iW f (n / 10) _).length;exact jX (by assumption)⟩
theorem rG{n:Nat}(h:n<100000):(fS (ab n)).length≤5/\0< (fS (ab n)).length:=Gx (n+1) n 4 [] (jA n) (by simpa using h)
def jr(s:S):Prop:=∀c∈s,BW 97 122 c=false
noncomputable def wi:S->Bool| [] =>true|c::_=>pT (jk c)
noncomputable def J3:S->Bool| [] =>false|c::r=>rF c&&(pT (kP c)&&r.all jk)
inductive lg:S->V->Nat->Prop where
 |num (n:Nat) (rest:S):n<65536->wi rest=true->lg (fS (ab n)++rest) (dt pF (.sym (n:Int))) (fS (ab n)).length
 |name (d rest:S):J3 d=true->wi rest=true->(sEq d [65,70] =false∨sEq (rest.take 1) [39] =false)->lg (d++rest) (dt eN (.ak d)) d.length
 |af (rest:S):lg ([65,70] ++(39::rest)) (dt eN (.str [65,70,39])) 3
 |sign (c:Nat) (rest:S):c=40∨c=41∨c=44∨c=43∨c=45->lg (c::rest) (dt EZ (.ak [c])) 1
structure ZI(K:Kc):Prop where
 xB:∀I c,ae (K 29 (.cons (.ak [c]) .nil)) I (.bool (rF c)) I
 v_:∀I c,ae (K 30 (.cons (.ak [c]) .nil)) I (.bool (kP c)) I
 yJ:∀I s i,s.length≤500->i≤s.length->ae (K 33 (C1 s i)) I (.sym ((i+jq (s.drop i):Nat):Int)) I
 JY:∀I s,jr s->s.length≤500->ae (K 32 (.cons (.ak s) .nil)) I (.ak s) I
 LQ:∀I s i c,s.length≤500->s[i]? =some c->sEq [c] [36] =false->sEq [c] [37] =false->jr s->ae (K 38 (C1 s i)) I (.bool false) I
 V9:∀I s i e n,s.length≤500->i<s.length->(s.take e).drop i=fS (ab n)->n<65536->i+jq (s.drop i)=e->ae (K 37 (C1 s i)) I (.tup (.cons (dt pF (.sym (n:Int))) (.cons (.sym (e:Int)) .nil))) I
section
variable{K:Kc}{I σ₁:List O}{s d r:S}{i e c k:Nat}{E:Env}{t:V}
theorem ZJ(x c:Nat):FG [x] [c] =bB x c:=by
 show @Bool.rec (λY=>Bool) (@Bool.rec (λY=>Bool) false true (aC x c)) true (a9 x c)=_;refine cW (a9 x c) (λh=>?_) (λh=>?_);rotate_left
 ·exact(ez.mpr (jX (cF.mp h))).symm
 ·refine cW (aC x c) (λg=>?_) (λg=>?_);rotate_left
  ·exact(ez.mpr (lP (eJ g))).symm
  ·refine cW (bB x c) (λq=>?_) (λq=>?_)
   ·rfl
   ·have h1:=eB q;have h2:¬x<c:=λz=>by replace h:=(cF.mpr z)▸h;exact absurd h nF
    have h3:x≠c:=λz=>by rw[z,jY] at g;exact absurd g nF
    lia
theorem rH{x y c:Nat}:BW x y c=(bB x c&&bB c y):=by unfold BW;rw[ZJ,ZJ]
theorem J4(h0:48≤c)(h1:c≤57):kP c=true:=by
 unfold kP;refine ah rH (ah (ez.mpr h0) (ah (ez.mpr h1) ?_));rfl
theorem yN(p d r:S):((p++(d++r)).take (p.length+d.length)).drop p.length=d:=by
 rw[←bH,←dA,List.take_left,iQ]
theorem E1(p d r:S):((p++(d++r)).take (p.length+d.length+1)).drop (p.length+d.length)=r.take 1:=by
 rw[←bH,←dA,qq,iQ,n7]
theorem pn:∀{d r:S},d.all jk=true->wi r=true->jq (d++r)=d.length
 | [],[],_,_=>rfl
 | [],c::r,_,h=>by
  show(bif jk c then jq r+1 else 0)=0;have h:pT (jk c)=true:=h;refine cW (jk c) (λhq=>?_) (λhq=>?_)
  ·rfl
  ·replace h:=hq▸h;exact absurd h nT
 |c::d,r,h,g=>by
  rw[iO,cK] at h;show(bif jk c then jq (d++r)+1 else 0)=_;refine ah h.1 (ah (pn h.2 g) ?_);rfl
theorem J5{p r:S}{c:Nat}:(p++c::r)[p.length]? =some c:=by simp
theorem qe{c y:Nat}(h:c≠y):sEq [c] [y] =false:=by rw[fP];simpa using h
theorem NY(hK:ZI K){pre:S}(ht:lg r t k)(hs:(pre++r).length≤500)(hl:jr (pre++r)):ae (aq NN K (C1 (pre++r) pre.length)) I (.tup (.cons t (.cons (.sym ((pre.length+k:Nat):Int)) .nil))) I:=by
 induction ht with
 |num n rest hn hr=>
  have hd:=pk n;refine aD (rG (n:=n) (bb (by assumption) (bW _ _))) λY h0=>?_
  generalize hD:fS (ab n)=D at *
  induction D using bE with
  |nil=>exact absurd h0 (jW _)
  |cons c D=>
  have hc:=hd c aW;refine w_ hs (c:=c) (by simp) ?_ (hK.V9 _ _ _ _ n hs (by simp) ?_ hn ?_)
  ·refine eV (J4 hc.1 hc.2) ?_;exact hK.v_ _ _
  ·refine ah hD ?_;exact yN pre (c::D) rest
  ·rw[iQ,pn ?_ hr];rw[c9];intro x hx
   have:=hd x hx;unfold jk;rw[J4 this.1 this.2,tS]
 |name d rest hd hr Qw=>
  induction d using bE with
  |nil=>exact absurd hd nT
  |cons c D=>
  have yg:(rF c&&(pT (kP c)&&D.all jk))=true:=hd;simp only[cK,Aj,iy] at yg;refine c_ yg λh1 h2 h3=>?_;clear yg
  have td:(c::D).all jk=true:=by
   rw[iO,h3,qo];unfold jk;rw[h1];rfl
  have hn:∀y,rF y=false->c≠y:=λy hy e=>by replace h1:=hy▸(e▸h1);exact absurd h1 nT
  have xB:=hK.xB I c;replace xB:=h1▸xB;have v_:=hK.v_ I c;replace v_:=h2▸v_;have yJ:=hK.yJ I _ pre.length hs (by simp);replace yJ:=(pn td hr)▸(iQ▸yJ);refine wg hs (c:=c) (by simp) v_ (hK.LQ _ _ _ c hs (by simp) (qe (hn 36 rfl)) (qe (hn 37 rfl)) hl) xB yJ ?_ ?_
  ·refine ah (yN pre (c::D) rest) ?_;exact hK.JY _ _ (λx hx=>hl x (bD _ (a0 _ hx))) (by replace hs:=dA▸(dA▸hs);lia)
  ·refine ah (E1 pre (c::D) rest) ?_;exact Qw
 |af rest=>
  have yJ:=hK.yJ I _ pre.length hs (by simp);rw[iQ,pn (d:=[65,70]) rfl rfl] at yJ;refine yM (d:=[65,70]) hs (c:=65) (by simp) (hK.v_ I 65) (hK.LQ _ _ _ 65 hs (by simp) rfl rfl hl) (hK.xB I 65) yJ ?_ rfl ?_
  ·have c1:((pre++([65,70] ++39::rest)).take (pre.length+2)).drop pre.length=[65,70] :=yN pre [65,70] (39::rest);refine ah c1 ?_;exact hK.JY _ _ (λx hx=>hl x (bD _ (a0 _ hx))) (by decide)
  ·have c1:((pre++([65,70] ++39::rest)).take (pre.length+2+1)).drop (pre.length+2)=[39] :=E1 pre [65,70] (39::rest);refine ah c1 ?_;rfl
 |sign c rest hc=>
  have hc':kP c=false/\rF c=false/\z5 c [39,34] =false/\z5 c [43,45,42,47,40,41,44,61,60,62,58,36] =true/\c≠60/\c≠62/\c≠36/\c≠37:=by
   rcases hc with rfl|rfl|rfl|rfl|rfl<;>decide+kernel
  refine aa5 hc' λc1 c2 c3 c4 c5 c6 c7 c8=>?_;clear hc';have xB:=hK.xB I c;replace xB:=c2▸xB;have v_:=hK.v_ I c;replace v_:=c1▸v_
  have U6:((pre++c::rest).take (pre.length+2)).drop pre.length=c::rest.take 1:=by
   rw[qq,iQ,n7];rfl
  have two:∀x y:Nat,c≠x->sEq [x,y] (c::rest.take 1)=false:=λx y h=>by
   rw[fP];simp;intro e;exact absurd e.symm h
  refine wh hs (c:=c) (by simp) v_ (hK.LQ _ _ _ c hs (by simp) (qe c7) (qe c8) hl) xB c3 ?_ ?_ ?_ c4
  ·refine ah U6 ?_;exact two _ _ c5
  ·refine ah U6 ?_;exact two _ _ c5
  ·refine ah U6 ?_;exact two _ _ c6
end
section
variable{K:Kc}{E ε₁:Env}{I σ₁ σ₂ σ₃:List O}{v w x l acc ts t:V}{a b:C}{m:Mt}{n i k:Nat}{s r:S}{q:Bool}
theorem ae.LR{f g:Mm->RE}(h:ae g I v σ₁)(e:∀h o,f ⟨I,h,o⟩=g ⟨I,h,o⟩):ae f I v σ₁:=by
 refine a6 h λh1 o1 p1 e1=>?_;clear h;exact⟨h1,o1,p1,λbC o'=>by rw[e];exact e1 bC o'⟩
theorem J6(h:ae (a K E) I w σ₁)(hk:∀h o,Q7 m w ⟨σ₁,h,o⟩=true)(g:ae (b K E) σ₁ l σ₂)(k:ae (lU m w l) σ₂ v σ₃):ae (FN m a b K E) I v σ₃:=
 ae.and (k:=λo B=>bm2 m o b K E B) h (ae.LR (ae.and g k) λh o=>by
  show @Bool.rec (λY=>RE) RE.no (cw (b K E ⟨σ₁,h,o⟩) (lU m w)) (Q7 m w ⟨σ₁,h,o⟩)=_;rw[hk])
theorem Bi{xs:V}(h1:e_ I i=.ok (.list xs))(h2:lT I i (.list (a_ xs (.cons x .nil)))=.ok σ₁)(h3:bF (a_ xs (.cons x .nil))=true):ae (lU .append (.loc i) (.cons x .nil)) I .none σ₁:=
 (bA [] [] trivial (λbC o'=>by
  show @OO.rec (λY=>RE) RE.no (λo=>@O.rec (λY=>RE) (λxs=>Q0 i xs (.cons x .nil) ⟨I,bC,o'⟩) (λY=>RE.no) (λY Y=>RE.no) (λY=>RE.no) RE.no o) (e_ I i)=_;refine ah h1 ?_;show @Bool.rec (λY=>RE) RE.no (okN (z_ (lT I i (.list (a_ xs (.cons x .nil)))) bC o')) (bF (a_ xs (.cons x .nil)))=_;refine ah h3 (ah h2 ?_);rfl))
theorem fH:∀l m:V,aO (a_ l m)=aO l+aO m:=by
 intro l m
 induction l with
 |cons a r _ ih=>show aZ (aO (a_ r m))=aZ (aO r)+_;refine ah ih ?_;lia
 |kv a b r _ _ ih=>show aZ (aO (a_ r m))=aZ (aO r)+_;refine ah ih ?_;lia
 |_=>show aO m=0+_;lia
theorem cU(h:aO l≤10000):bF l=true:=ez.mpr h
theorem sv{l:V}(hl:pO l=true):a_ (a_ l (.cons x .nil)) t=a_ l (.cons x t):=by
 induction l with
 |cons a r _ ih=>exact congrArg (V.cons a) (ih hl)
 |nil=>rfl
 |_=>exact absurd hl nT
theorem mj{l:V}(hl:pO l=true):a_ l .nil=l:=by
 induction l with
 |cons a r _ ih=>exact congrArg (V.cons a) (ih hl)
 |nil=>rfl
 |_=>exact absurd hl nT
theorem tH{l:V}(hl:pO l=true):pO (a_ l (.cons x .nil))=true:=by
 induction l with
 |cons a r _ ih=>exact ih hl
 |nil=>rfl
 |_=>exact absurd hl nT
inductive Pl:V->Nat->Prop where
 |int (i:Nat):Pl (.int (ab i)) i
 |sym (i:Nat):Pl (.sym (ab i)) i
theorem J7{av:V}(h:Pl av i):br (fy .lt av (.sym (ab n))) I (decide (i<n)) I:=by
 have e:decide (i<n)=gI (ab i) (ab n):=by rw[bj];exact decide_eq_decide.mpr gR.symm
 refine ah e ?_
 induction h<;>exact br.ask
theorem tI{av:V}{u:S}(h:Pl av i)(hs:u.length≤500)(hc:u[i]? =some k):ae (qX (.ak u) av) I (.ak [k]) I:=by
 cases h with
 |sym=>exact yL hs hc
 |int=>
  have hi:i<u.length:=(cA.mp hc).1;have hn:mB u i=[k] :=by rw[fh,hc]
  have hl:low (ab i)=true:=by
   unfold low;rw[bj,bj,decide_eq_true (by show(d7 999999:Int)< (i:Int);omega),decide_eq_true (by show(i:Int)<1000000;omega)];rfl
  refine ae.to ae.ok λB=>?_;show @Bool.rec (λY=>RE) RE.no (ze (Hc false (mB u i)) B) (low (ab i))=_;refine ah hl (ah hn ?_);rfl
theorem U7{av:V}(h:Pl av i):∃V',Pl V' (i+1)/\∀B,B7 .add av (.int (ab 1)) B=RE.ok V' B:=by
 cases h with
 |int=>exact aQ _ (Pl.int (i+1)) (λB=>rfl)
 |sym=>exact aQ _ (Pl.sym (i+1)) (λB=>rfl)
theorem yO(hs:s.length≤500):ae (wY 0 (.cons (.ak s) .nil)) I (.sym (ab s.length)) I:=by
 have:=ae.m9 (I:=I) (v:=.sym (ab (j5 s))) (fG hs);rw[eu] at this
 exact ae.to this λB=>by
  show RE.ok (.sym (ab (j5 s))) _=_;rw[eu]
inductive Lex:S->V->Prop where
 |nil:Lex [] .nil
 |skip {r:S} {ts:V}:Lex r ts->Lex (32::r) ts
 |tok {r:S} {t ts:V} {k:Nat}:lg r t k->Lex (r.drop k) ts->Lex r (.cons t ts)
theorem J8(h:lg r t k):∃c r',r=c::r'/\z5 c [32,9,13] =false/\sEq [c] [59] =false/\0<k/\k≤r.length:=by
 induction h with
 |num n rest hn hr=>
  have hd:=pk n;refine aD (rG (n:=n) (by omega)) λY h0=>?_
  generalize fS (ab n)=D at *
  induction D using bE with
  |nil=>exact absurd h0 (jW _)
  |cons c D=>
   have hc:=hd c aW;refine⟨c,D++rest,rfl,?_,qe (by omega),h0,by simp⟩;rw[kM];simp;lia
 |name d rest hd hr Qw=>
  induction d using bE with
  |nil=>exact absurd hd nT
  |cons c D=>
  have yg:(rF c&&(pT (kP c)&&D.all jk))=true:=hd;rw[cK] at yg;have hn:∀y,rF y=false->c≠y:=λy hy e=>by replace yg:=hy▸(e▸yg);cases yg.1
  refine⟨c,D++rest,rfl,?_,qe (hn 59 rfl),lN _,by simp⟩;rw[kM];simp;exact bL (hn 32 rfl) (hn 9 rfl) (hn 13 rfl)
 |af rest=>exact⟨65,_,rfl,rfl,rfl,by decide,by simp⟩
 |sign c rest hc=>exact⟨c,rest,rfl,by rcases hc with rfl|rfl|rfl|rfl|rfl<;>rfl,qe (by lia),Nat.one_pos,by simp⟩
noncomputable abbrev wj(s:S)(av:V)(tl:Env):Env:=.cons aJ (.ak s) (.cons j3 (.loc 0) (.cons aB av tl))
noncomputable abbrev J9:C:=u9 (gd .lt (cV aB) (jE 0 (aH (cV aJ) ck))) (gd .ne (h_ (cV aJ) (cV aB)) (cC (.str [59])))
noncomputable abbrev Qx:CS:=bI (B8 (gd .BO (h_ (cV aJ) (cV aB)) (cC (.str [32,9,13]))) (bI (Ad aB .add (cC (.int (.ofNat 1)))) fm) (bI (w1 (gK [gj,aB]) (rZ 39 (aH (cV aJ) (aH (cV aB) ck)))) (bI (r6 (FN .append (cV j3) (aH (cV gj) ck))) fm))) fm
theorem ZK(h39:∀I av i r t k pre,Pl av i->i=pre.length->s=pre++r->lg r t k->ae (K 39 (.cons (.ak s) (.cons av .nil))) I (.tup (.cons t (.cons (.sym ((i+k:Nat):Int)) .nil))) I)(hs:s.length≤500):
  ∀(r:S)(ts:V),Lex r ts->∀(n:Nat)(pre:S)(av:V)(tl:Env)(acc:V),s=pre++r->Pl av pre.length->(tl=.nil∨∃y,tl=.cons gj y .nil)->pO acc=true->aO acc≤pre.length->r.length<n->
   ∃eR,au (lV J9 Qx K n (wj s av tl)) [.list acc] (.dw eR) [.list (a_ acc ts)] /\a8 eR j3=.ok (.loc 0):=by
 intro r ts h
 induction h with
 |nil=>
  intro n pre av tl acc he hp ht ha hl hn;obtain⟨n,rfl⟩:∃m,n=m+1:=⟨n - 1,by have:(0:Nat)<n:=hn;omega⟩;refine(aQ (wj s av tl) ?_ rfl)
  have:decide (pre.length<s.length)=false:=by refine ah he ?_;simp
  have hb:ae (J9 K (wj s av tl)) [.list acc] (.bool false) [.list acc] :=iJ (bu (aI rfl) (fj (ai (aI rfl) aF) (yO hs)) (this▸J7 hp));refine ah (mj ha) ?_;exact au.yD (br.qW hb)
 | @skip r ts _ ih=>
  intro n pre av tl acc he hp ht ha hl hn;obtain⟨n,rfl⟩:∃m,n=m+1:=⟨n - 1,by omega⟩;have hc:s[pre.length]? =some 32:=by refine ah he ?_;exact J5
  have hW:decide (pre.length<s.length)=true:=by refine ah he ?_;simp
  have hb:ae (J9 K (wj s av tl)) [.list acc] (.bool true) [.list acc] :=
   g_ (bu (aI rfl) (fj (ai (aI rfl) aF) (yO hs)) (hW▸J7 hp)) (bu (fi (aI rfl) (aI rfl) (tI hp hs hc)) bV (J0 (u:=[32]) (u':=[59])))
  refine aL (U7 hp) λV' kf hav=>?_;refine aL (ih n (pre++[32]) V' tl acc (by refine ah he ?_;simp) (by simpa using kf) ht ha (by simp;omega) (by simpa using hn)) λeR h1 h2=>?_;refine(aQ eR (au.wa (ε₁:=wj s V' tl) (br.qW hb) ?_ h1) h2);refine NW (q:=true) (bu (fi (aI rfl) (aI rfl) (tI hp hs hc)) bV (EY (k:=32) (u:=[32,9,13]))) (U5 (ε₁:=wj s V' tl) (σ₁:=[.list acc]) ?_ dx) dx;refine(bA [] [] trivial (λbC o'=>?_));show iY (B7 .add av (.int (ab 1)) ⟨[.list acc],bC,o'⟩) _=_;rw[hav];rfl
 | @tok r t ts k hk _ ih=>
  intro n pre av tl acc he hp ht ha hl hn;refine Mh (J8 hk) λc r' hr c1 c2 c3 c4=>?_;have hlen:0<r.length:=by refine ah hr ?_;exact lN _
  obtain⟨n,rfl⟩:∃m,n=m+1:=⟨n - 1,by omega⟩;have hc:s[pre.length]? =some c:=by refine ah he (ah hr ?_);exact J5
  have hW:decide (pre.length<s.length)=true:=by refine ah he (ah hr ?_);simp
  have hb:ae (J9 K (wj s av tl)) [.list acc] (.bool true) [.list acc] :=
   g_ (bu (aI rfl) (fj (ai (aI rfl) aF) (yO hs)) (hW▸J7 hp)) (bu (fi (aI rfl) (aI rfl) (tI hp hs hc)) bV (by have:=J0 (I:=[O.list acc]) (u:=[c]) (u':=[59]);rwa [c2] at this))
  have hle:aO (a_ acc (.cons t .nil))=aO acc+1:=fH _ _;have hpl:pre.length≤500:=by replace hs:=he▸hs;simp at hs;omega
  have Jt:(pre++r.take k).length=pre.length+k:=by simp;lia
  refine aL (ih n (pre++r.take k) (.sym ((pre.length+k:Nat):Int)) (.cons gj t .nil) (a_ acc (.cons t .nil)) (by refine ah he ?_;simp) (by refine ah Jt ?_;exact Pl.sym _) (.inr ⟨t,rfl⟩) (tH ha) (by refine ah hle (ah Jt ?_);lia) (by simp;omega)) λeR h1 h2=>?_;replace h1:=(sv ha)▸h1;refine(aQ eR (au.wa (ε₁:=wj s (.sym ((pre.length+k:Nat):Int)) (.cons gj t .nil)) (br.qW hb) ?_ h1) h2);refine NW (q:=false) (ε₁:=wj s (.sym ((pre.length+k:Nat):Int)) (.cons gj t .nil)) (bu (fi (aI rfl) (aI rfl) (tI hp hs hc)) bV (by have:=EY (I:=[O.list acc]) (k:=c) (u:=[32,9,13]);rwa [c1] at this)) ?_ dx;refine kr (eG (ai (aI rfl) (ai (aI rfl) aF)) (h39 _ av _ r t k pre hp rfl he hk)) (ε₁:=wj s (.sym ((pre.length+k:Nat):Int)) (.cons gj t .nil)) (λh o=>by rcases ht with rfl|⟨y,rfl⟩<;>rfl) ?_;exact i9 (J6 (aI rfl) (λY Y=>rfl) (ai (aI rfl) aF) (Bi (i:=0) rfl rfl (cU (by refine ah hle ?_;lia)))) dx
theorem C3{ts:V}(h39:∀I av i r t k pre,Pl av i->i=pre.length->s=pre++r->lg r t k->ae (K 39 (.cons (.ak s) (.cons av .nil))) I (.tup (.cons t (.cons (.sym ((i+k:Nat):Int)) .nil))) I)(hs:s.length≤500)(hl:Lex s ts):
  ae (aq V8 K (.cons (.ak s) .nil)) [] (.loc 0) [.list ts] :=by
 refine aL (ZK h39 hs s ts hl turns [] (.int (ab 0)) .nil .nil rfl (Pl.int 0) (.inl rfl) rfl (bT _) (by show s.length<600;omega)) λeR h1 h2=>?_;refine ae.call (ns:=[aJ]) rfl ?_;refine kr (σ₁:=[.list .nil]) (v:=.tup (.cons (.loc 0) (.cons (.int (ab 0)) .nil))) (ε₁:=wj s (.int (ab 0)) .nil) ⟨[],[],trivial,λbC o'=>by kernel_rfl⟩ (λh o=>rfl) ?_;exact U5 (s:=B' J9 Qx) h1 (ef (aI h2))
end
section
variable{K:Kc}{I:List O}{v w l:V}{s:S}{R:V->V->Prop}
theorem jc.refl:jc v v:=λY Y Y Y Y q=>q
theorem gF.refl:gF v v:=λY Y Y Y Y q=>q
theorem eO(h:R l w):ae (gm R K l) I w I:=(bA [w] [R l w] ⟨h,trivial⟩ (λY Y=>rfl))
theorem oS{l':V}(hf:bZ (cZ 8 ⟨I,[],[]⟩) l=.ok l')(h:R l' w):ae (rE R K l) I w I:=(bA [l',w] [bZ (cZ 8 ⟨I,[],[]⟩) l=.ok l'/\R l' w] ⟨⟨hf,h⟩,trivial⟩ (λY Y=>rfl))
theorem le_str{s:S}:jc (.str s) (.ak s):=λY Y Y Y Y q=>q
theorem yP{s:S}:jc (.ak s) (.str s):=λY Y Y Y Y q=>q
theorem le_int{i:Int}:jc (.int i) (.sym i):=λY Y Y Y Y q=>q
theorem J_{i:Int}:jc (.sym i) (.int i):=λY Y Y Y Y q=>q
theorem wk{a b:V}(h:gF a b):jc (.tup a) (.tup b):=λY Y Y Y Y ⟨a,vs,e,n,t,q⟩=>(mH a vs e n t (h _ _ _ _ _ q))
theorem yQ{a b:V}(h:gF a b):jc (.lst a) (.lst b):=λY Y Y Y Y ⟨a,vs,e,n,t,q⟩=>(mH a vs e n t (h _ _ _ _ _ q))
theorem cP{a b r t:V}(h:jc a b)(g:gF r t):gF (.cons a r) (.cons b t):=λY Y Y Y Y ⟨x,xs,e,q1,q2⟩=>(dy x xs e (h _ _ _ _ _ q1) (g _ _ _ _ _ q2))
noncomputable section
noncomputable def K0:Kc:=kJ gQ 4
noncomputable def T1:Tr (Kc->V->Mm->RE):=gn gQ 32 (gm (fD (aq Zv K0)))
noncomputable def K1:Kc:=dW T1 K0 8
noncomputable def T2:Tr (Kc->V->Mm->RE):=gn T1 39 (gm (fD (aq NN K1)))
noncomputable def K2:Kc:=dW T2 K1 4
end
theorem NZ(hl:jr s)(hs:s.length≤500):fD (aq Zv K0) (.cons (.ak s) .nil) (.ak s):=by
 induction s using bE with
 |nil=>exact ji _ (.str []) (.str []) [.list .nil] gF.refl rfl ⟨[],[],trivial,by kernel_rfl⟩ rfl le_str
 |cons c r=>exact ji _ (.ak (c::r)) (.ak (c::r)) _ gF.refl rfl ((Be hl hs (λh=>nomatch h)).z) rfl jc.refl
theorem lh{t:Tr (Kc->V->Mm->RE)}{f k:Nat}{g:Kc->V->Mm->RE}{K:Kc}(e:Tr.get (λY Y Y=>RE.no) t f=g):dW t K (k+1) f=g (dW t K k):=by
 funext l B;show Tr.get _ t f (dW t K k) l B=_;exact ah e rfl
end
section
variable{I:List O}{n:Nat}{s:S}
noncomputable abbrev Kx(n:Nat):Kc:=dW T1 K0 n
theorem kx{f k:Nat}{g:Kc->V->Mm->RE}(e:Tr.get (λY Y Y=>RE.no) T1 f=g):Kx (k+1) f=g (Kx k):=lh e
theorem x29(n:Nat)(I:List O)(c:Nat):ae (Kx (n+1) 29 (.cons (.ak [c]) .nil)) I (.bool (rF c)) I:=by refine ah (kx (g:=aq f29) rfl) ?_;exact v9
theorem x30(n:Nat)(I:List O)(c:Nat):ae (Kx (n+1) 30 (.cons (.ak [c]) .nil)) I (.bool (kP c)) I:=by refine ah (kx (g:=aq f30) rfl) ?_;exact CZ
theorem x31(n:Nat)(I:List O)(c:Nat):ae (Kx (n+2) 31 (.cons (.ak [c]) .nil)) I (.bool (jk c)) I:=by refine ah (kx (g:=aq f31) rfl) ?_;exact w7 (x29 n I c) (x30 n I c)
theorem x33(n:Nat)(I:List O)(s:S)(i:Nat)(hs:s.length≤500)(hi:i≤s.length):ae (Kx (n+3) 33 (C1 s i)) I (.sym ((i+jq (s.drop i):Nat):Int)) I:=by refine ah (kx (g:=aq f33) rfl) ?_;exact A_ hs hi λc=>x31 n I c
theorem x32(n:Nat)(I:List O)(s:S)(hl:jr s)(hs:s.length≤500):ae (Kx (n+1) 32 (.cons (.ak s) .nil)) I (.ak s) I:=by refine ah (kx (g:=gm (fD (aq Zv K0))) rfl) ?_;exact eO (NZ hl hs)
theorem E2{c:Nat}(h:48≤c/\c≤57):BW 97 122 c=false:=by
 refine ah rH ?_
 have:bB 97 c=false:=by cases hb:bB 97 c with|false=>rfl|true=>have:=eB hb;omega
 refine ah this ?_;rfl
theorem x37(n:Nat)(I:List O)(s:S)(i e k:Nat)(hs:s.length≤500)(hi:i<s.length)(hd:(s.take e).drop i=fS (ab k))(hk:k<65536)(he:i+jq (s.drop i)=e):
  ae (Kx (n+4) 37 (C1 s i)) I (.tup (.cons (dt pF (.sym (k:Int))) (.cons (.sym (e:Int)) .nil))) I:=by
 refine ah (kx (g:=aq f37) rfl) ?_;refine aD (rG (n:=k) (bb (by assumption) (bW _ _))) λl1 l0=>?_;have dg:=pk k;have dv:=J2 k
 generalize fS (ab k)=d at *
 have hc:s[i]? =some s[i] :=eZ hi
 have Yx:s[i] ∈d:=by
  rw[←hd] at l0 ⊢;rw[qq] at l0 ⊢;rw[lH hi] at l0 ⊢;refine abi (e - i) (λhx=>?_) (λm hx=>?_)
  ·rw[hx] at l0;exact absurd l0 (jW _)
  ·exact aW
 have hc2:=dg _ Yx;refine eV dv ?_;have yJ:=x33 n I s i hs (jX hi);rw[he] at yJ;refine w9 hs hc (by rw[kM];simp;lia) (by refine ah mi ?_;exact hd) (by omega) (by omega) yJ (x32 _ _ _ (λc hc=>E2 (dg c hc)) (bb (by assumption) (bW _ _))) ?_;refine ah (kx (g:=aq f35) rfl) ?_;refine w8 dg (bb (by assumption) (bW _ _)) ?_;refine ah (kx (g:=aq f34) rfl) ?_;exact C0 dg (bb (by assumption) (bW _ _)) (zD.mp l0)
theorem abO(n:Nat):ZI (Kx (n+5)) where
 xB:=λI c=>x29 _ I c
 v_:=λI c=>x30 _ I c
 yJ:=λI s i hs hi=>x33 _ I s i hs hi
 JY:=λI s hl hs=>x32 _ I s hl hs
 LQ:=λI s i c hs hc h1 h2 hl=>by
  refine ah (kx (g:=aq f38) rfl) ?_;refine yK hs hc h1 h2 (x32 _ _ _ (λx hx=>hl x ?_) ?_)
  ·rw[mi] at hx;exact ub (List.mem_of_mem_drop hx)
  ·refine ah mi (ah lF (ah gp ?_));omega
 V9:=λI s i e k hs hi hd hk he=>x37 _ I s i e k hs hi hd hk he
theorem N0{av:V}{i k:Nat}{r pre:S}{t:V}(hp:Pl av i)(he:i=pre.length)(hr:s=pre++r)(ht:lg r t k)(hs:s.length≤500)(hl:jr s):
  fD (aq NN K1) (.cons (.ak s) (.cons av .nil)) (.tup (.cons t (.cons (.sym ((i+k:Nat):Int)) .nil))):=by
 subst he;subst hr;refine(ji (C1 (pre++r) pre.length) _ _ _ ?_ rfl ((NY (abO 3) ht hs hl).z) ?_ jc.refl)
 ·cases hp with
  |int=>exact cP jc.refl (cP le_int gF.refl)
  |sym=>exact gF.refl
 ·induction ht<;>rfl
theorem Bj{ts:V}(hs:s.length≤500)(hl:jr s)(h:Lex s ts):ae (aq V8 K2 (.cons (.ak s) .nil)) [] (.loc 0) [.list ts] :=by
 refine C3 (λI av i r t k pre hp he hr ht=>?_) hs h;show ae (dW T2 K1 (3+1) 39 _) I _ I;refine ah (lh (g:=gm (fD (aq NN K1))) rfl) ?_;exact eO (N0 hp he hr ht hs hl)
end
inductive jl:S->V->Prop where
 |nil:jl [] .nil
 |skip {r:S} {ts:V}:jl r ts->jl (32::r) ts
 |num (n:Nat) (v:V) {rest:S} {ts:V}:jc (.sym (n:Int)) v->n<65536->wi rest=true->jl rest ts->jl (fS (ab n)++rest) (.cons (dt pF v) ts)
 |name (d:S) {rest:S} {ts:V}:J3 d=true->wi rest=true->(sEq d [65,70] =false∨sEq (rest.take 1) [39] =false)->jl rest ts->jl (d++rest) (.cons (dt eN (.str d)) ts)
 |af {rest:S} {ts:V}:jl rest ts->jl ([65,70] ++(39::rest)) (.cons (dt eN (.str [65,70,39])) ts)
 |sign (c:Nat) {rest:S} {ts:V}:c=40∨c=41∨c=44∨c=43∨c=45->jl rest ts->jl (c::rest) (.cons (dt EZ (.str [c])) ts)
section
variable{s r:S}{ts:V}
theorem jl.lex(h:jl s ts):∃Qm,Lex s Qm/\gF Qm ts/\∀B,bZ (cZ 7 B) Qm=.ok Qm:=by
 have fz:∀{k:S}{v t:V},(∀B,cZ 6 B v=.ok v)->(∀B,bZ (cZ 7 B) t=.ok t)->∀B,bZ (cZ 7 B) (.cons (dt k v) t)=.ok (.cons (dt k v) t):=λ{k v t} h g B=>by
  have h1:cZ 7 B (dt k v)=.ok (dt k v):=by
   show gO (bZ (cZ 6 B)) V.tup (.cons (.str k) (.cons v .nil))=_;show gO (λY=>dN (OV.ok (.str k)) (dN (cZ 6 B v) (OV.ok .nil) V.cons) V.cons) V.tup (.cons (.str k) (.cons v .nil))=_;rw[h];rfl
  show dN (cZ 7 B (dt k v)) (bZ (cZ 7 B) t) V.cons=_;rw[h1,g];rfl
 induction h with
 |nil=>exact bS .nil .nil gF.refl (λY=>rfl)
 |skip _ ih=>refine bQ ih λt a b c=>?_;clear ih;exact bS t (.skip a) b c
 |num n v hv hn hr _ ih=>
  refine bQ ih λt a b c=>?_;clear ih;exact bS _ (.tok (.num n _ hn hr) (by refine ah iQ ?_;exact a)) (cP (wk (cP jc.refl (cP hv gF.refl))) b) (fz (λY=>rfl) c)
 |name d hd hr ha _ ih=>
  refine bQ ih λt a b c=>?_;clear ih;exact bS _ (.tok (.name d _ hd hr ha) (by refine ah iQ ?_;exact a)) (cP (wk (cP jc.refl (cP yP gF.refl))) b) (fz (λY=>rfl) c)
 |af _ ih=>
  refine bQ ih λt a b c=>?_;clear ih;exact bS _ (.tok (.af _) a) (cP jc.refl b) (fz (λY=>rfl) c)
 |sign x hx _ ih=>
  refine bQ ih λt a b c=>?_;clear ih;exact bS _ (.tok (.sign x _ hx) a) (cP (wk (cP jc.refl (cP yP gF.refl))) b) (fz (λY=>rfl) c)
theorem C4(hs:s.length≤500)(hl:jr s)(h:jl s ts):fD (aq V8 K2) (.cons (.ak s) .nil) (.lst ts):=by
 refine bQ h.lex λt a b c=>?_;refine(ji _ (.loc 0) (.lst t) [.list t] gF.refl rfl ((Bj hs hl a).z) ?_ (yQ b));show gO (bZ (cZ 7 ⟨[.list t],[],[]⟩)) V.lst t=_;show @OV.rec (λY=>OV) OV.no (λl=>OV.ok (.lst l)) (bZ (cZ 7 ⟨[.list t],[],[]⟩) t)=_;rw[c]
end
set_option backward.match.sparseCases false
noncomputable section
noncomputable def ZL(p:Prop)(B:Mm):Mm:=@Mm.rec (λY=>Mm) (λs h o=>Mm.mk s h (cf p o)) B
noncomputable def yR(spec:V->OV)(pre:V->Prop):Kc->V->Mm->RE:=λY l B=>@OV.rec (λY=>RE) RE.no (λw=>RE.ok w (ZL (pre l) B)) (spec l)
inductive Nk where|r|p|f
noncomputable def Nk.s:Nk->S|.r=>[114] |.p=>[112] |.f=>[102]
inductive cX where|nm (k:Nk) (s:S)|me (s:S)|nu (l:Bool) (i:Int)|ad (i:Int)|ix (s:S) (d:Int)
structure Ord where
 w:S
 ops:List cX
 many:Nat
noncomputable def cX.val:cX->V
 |.nm k s=>.tup (.cons (.str k.s) (.cons (.str s) .nil))
 |.me s=>.tup (.cons (.str [109]) (.cons (.str s) .nil))
 |.nu l i=>.tup (.cons (.str [110]) (.cons (bif l then .int i else .sym i) .nil))
 |.ad i=>.tup (.cons (.str [97]) (.cons (.sym i) .nil))
 |.ix s d=>.tup (.cons (.str [120]) (.cons (.str s) (.cons (.sym d) .nil)))
noncomputable def eT:List cX->V| [] =>.nil|o::l=>.cons o.val (eT l)
noncomputable def Ord.val(o:Ord):V:=.tup (.cons (.str o.w) (.cons (.lst (eT o.ops)) (.cons (.int (ab o.many)) .nil)))
noncomputable def ZM:V->cX
 |.tup (.cons (.str k) (.cons (.str s) .nil))=>bif sEq k [109] then .me s else .nm (bif sEq k [114] then .r else bif sEq k [112] then .p else .f) s
 |.tup (.cons (.str k) (.cons (.str s) (.cons (.sym d) _)))=>.ix s d
 |.tup (.cons (.str k) (.cons (.int i) _))=>.nu true i
 |.tup (.cons (.str k) (.cons (.sym i) _))=>bif sEq k [110] then .nu false i else .ad i
 |_=>.nm .r []
noncomputable def Qy:V->List cX|.cons a r=>ZM a::Qy r|_=>[]
noncomputable def ZN:V->Ord|.tup (.cons (.str w) (.cons (.lst l) (.cons (.int (.ofNat n)) .nil)))=>⟨w,Qy l,n⟩|_=>⟨[],[],0⟩
theorem oLst(v:V):(∃x0,v=.lst x0)∨∀(H:Type)(d:H) f,V.Dy d f v=d:=by induction v using V.casesOn<;>first|exact .inr λY Y Y=>rfl|exact .inl ⟨_,rfl⟩
theorem abP{H:Type}{d y:H}{Q:Prop}{A:V->H}{v:V}(n:d≠y)(e:V.Dy d A v=y)(k:∀x0,v=.lst x0->A x0=y->Q):Q:=by
 rcases oLst v with⟨x0,rfl⟩|h
 ·exact k _ rfl e
 ·exact absurd ((h _ _ _).symm.trans e) n
theorem ZO(v:V):(∃x0,v=.sym x0)∨∀(H:Type)(d:H) f,V.qU d f v=d:=by induction v using V.casesOn<;>first|exact .inr λY Y Y=>rfl|exact .inl ⟨_,rfl⟩
theorem Ka{H:Type}{d y:H}{Q:Prop}{A:Int->H}{v:V}(n:d≠y)(e:V.qU d A v=y)(k:∀x0,v=.sym x0->A x0=y->Q):Q:=by
 rcases ZO v with⟨x0,rfl⟩|h
 ·exact k _ rfl e
 ·exact absurd ((h _ _ _).symm.trans e) n
theorem abQ(v:V):(∃x0 x1,v=.rV x0 x1)∨∀(H:Type)(d:H) f,V.Dw d f v=d:=by induction v using V.casesOn<;>first|exact .inr λY Y Y=>rfl|exact .inl ⟨_,_,rfl⟩
theorem abR{H:Type}{d y:H}{Q:Prop}{A:Int->Int->H}{v:V}(n:d≠y)(e:V.Dw d A v=y)(k:∀x0 x1,v=.rV x0 x1->A x0 x1=y->Q):Q:=by
 rcases abQ v with⟨x0,x1,rfl⟩|h
 ·exact k _ _ rfl e
 ·exact absurd ((h _ _ _).symm.trans e) n
section
variable(acV:V)(a:Int)(G:Prop)(bs:V)(e:Nat->Int)(sg:Int->Int)
noncomputable def atS(f:Nat->OV)(v:V):OV:=V.e8 .no (λx r=>V.Dy .no (λY=>V.e8 .no (λy z=>V.Dw .no (λY k=>V.j4 .no (@Int.rec (λY=>OV) f (λY=>.no) k) z) y) r) x) v
noncomputable def atP(v:V):Prop:=V.e8 False (λx r=>V.Dy False (λm=>V.e8 False (λy z=>V.Dw False (λa' Y=>V.j4 False (m=acV/\a'=a/\G) z) y) r) x) v
noncomputable def sgS(v:V):OV:=V.e8 .no (λx r=>V.qU .no (λb=>V.j4 .no (.ok (.sym (sg b))) r) x) v
noncomputable def TD:Tr (Kc->V->Mm->RE):=gn (gn (gn (gn gQ 0 (yR (atS (eW bs)) (atP acV a G))) 1 (yR (atS λk=>bif a9 k 8 then .ok (.sym (e (8+k))) else .no) (atP acV a G))) 7 (yR (atS λk=>bif a9 k 8 then .ok (.sym (e (16+k))) else .no) (atP acV a G))) 2 (yR (sgS sg) λY=>acV=acV/\a=a/\G)
noncomputable def wm:RE:=aq f23 (dW (TD acV a G bs e sg) K0 8) (.cons (.lst acV) (.cons (.rV a (.ofNat 0)) .nil)) ⟨[],[],[]⟩
noncomputable def xa(r:RE):List O:=@RE.rec (λY=>List O) [] (λY B=>B.bk) r
noncomputable def abS(r:RE):List Prop:=@RE.rec (λY=>List Prop) [] (λY B=>B.nj) r
noncomputable def abT(r:RE):V:=@RE.rec (λY=>V) .none (λv B=>@OV.rec (λY=>V) .none (λw=>w) (cZ 8 ⟨B.bk,[],[]⟩ v)) r
noncomputable def qf:Ord:=ZN (abT (wm acV a G bs e sg))
end
noncomputable def xb(r:RE):V:=@RE.rec (λY=>V) .none (λv Y=>v) r
end
set_option backward.match.sparseCases true
noncomputable def cX.txt:cX->S
 |.nm _ s=>s
 |.me s=>[40] ++s++[41]
 |.nu _ i=>fS i
 |.ad i=>[40] ++fS i++[41]
 |.ix s d=>[40] ++s++(bif gI d 0 then [45] else [43])++fS (fR d)++[41]
def cX.ok:cX->Prop
 |.nm _ s=>s.length≤10
 |.me s=>s.length≤10
 |.nu _ i=>0≤i/\i<65536
 |.ad i=>0≤i/\i<65536
 |.ix s d=>s.length≤10/\ -128≤d/\d≤127
section
variable{K:Kc}{I σ₁:List O}{v w l:V}{x y s:S}{i:Int}{o:cX}
theorem wo(hv:cu v=.ok x)(hw:cu w=.ok y)(hb:xh v w=false)(hs:(x++y).length≤500):ae (rY .add v w) I (.ak (x++y)) I:=by
 have h:=ae.m9 (I:=I) (v:=.ak (iU x y)) (fG (s:=iU x y) (by rw[eM];exact hs))
 have key:∀{v:V},xh v w=false->∀B,L0 .add v w x B=RE.ok (.ak (iU x y)) (Mine.Internal.m9 (cY (iU x y)) B):=λ{v} hb B=>by
  show @OS.rec (λY=>RE) RE.no (λt=>FJ (xh v w) (iU x t) B) (cu w)=_;refine ah hw (ah hb ?_);rfl
 rw[eM] at h key
 induction v using V.casesOn with
 |str z=>refine rOS hv ?_;exact ae.to h λB=>key hb B
 |ak z=>refine rOS hv ?_;exact ae.to h λB=>key hb B
 |_=>exact absurd hv nS
theorem wq(h0: -1000<i)(h1:i<100000):low i=true:=by
 unfold low;rw[bj,bj,decide_eq_true (by omega),decide_eq_true (by omega)];rfl
theorem tJ(h0:0≤i)(h1:i<65536):ae (wY 4 (.cons (.sym i) .nil)) I (.ak (fS i)) I:=ae.m9 (wq (by omega) (by omega))
theorem str_int(h0:0≤i)(h1:i<65536):ae (wY 4 (.cons (.int i) .nil)) I (.str (fS i)) I:=ae.to ae.ok λB=>by
 show @Bool.rec (λY=>RE) RE.no (RE.ok (.str (fS i)) B) (low i)=_;exact ah (wq (by omega) (by omega)) rfl
theorem pq(h0:0≤i)(h1:i<65536):(fS i).length≤5:=by
 refine bc (fX h0) λn i7=>?_;subst i7;exact(rG (n:=n) (by omega)).1
theorem sz{d:Int}(h0: -128≤d)(h1:d≤127):0≤fR d/\fR d<65536:=by
 induction d with
 |ofNat n=>exact⟨b9 n,by show(n:Int)<_;have:(n:Int)≤127:=h1;omega⟩
 |negSucc n=>exact⟨b9 _,by show((n+1:Nat):Int)<_;omega⟩
theorem oT{x y:S}:br (fy .eq (.str x) (.str y)) I (sEq x y) I:=br.ok
theorem Kb(ho:o.ok):∃v,ae (aq Zt K (.cons o.val .nil)) I v I/\cu v=.ok o.txt/\(v=.str o.txt∨v=.ak o.txt):=by
 have two:∀(k:S)(u:V),∃E,E=Env.cons je (.tup (.cons (.str k) (.cons u .nil))) (.cons 1721792682 (.str k) (.cons gj u .nil)):=λk u=>⟨_,rfl⟩;have ZP:∀{k:S}{u r:V},ae (pV (aH (h_ (cV je) (cC (.int (.ofNat 0)))) (aH (h_ (cV je) (cC (.int (.ofNat 1)))) ck)) K (.cons je (.tup (.cons (.str k) (.cons u r))) .nil)) I (.tup (.cons (.str k) (.cons u .nil))) I:=λ{k u r}=>⟨[],[],trivial,λbC o'=>by kernel_rfl⟩
 induction o with
 |nm k s=>exact⟨.str s,by induction k<;>exact⟨[],[],trivial,λbC o'=>by kernel_rfl⟩,rfl,.inl rfl⟩
 |nu b i=>
  refine aD ho λh0 h1=>?_;clear ho
  induction b with
  |false=>
   refine(bS (.ak (fS i)) (ae.call (ns:=[je]) rfl ?_) rfl (.inr rfl));exact kr ZP (λY Y=>rfl) (kq (bu (aI rfl) bV (we (q:=sEq [110] [110]) rfl oT)) (ef (fj (ai (aI rfl) aF) (tJ h0 h1))))
  |true=>
   refine(bS (.str (fS i)) (ae.call (ns:=[je]) rfl ?_) rfl (.inl rfl));exact kr ZP (λY Y=>rfl) (kq (bu (aI rfl) bV (we (q:=sEq [110] [110]) rfl oT)) (ef (fj (ai (aI rfl) aF) (str_int h0 h1))))
 |ad i=>
  refine aD ho λh0 h1=>?_;clear ho;have hl:=pq h0 h1;refine(bS (.ak ([40] ++fS i++[41])) (ae.call (ns:=[je]) rfl ?_) rfl (.inr rfl));refine kr ZP (λY Y=>rfl) (bU (bu (aI rfl) bV (we (q:=sEq [97] [110]) rfl oT)) (kq (U4 (bu (aI rfl) bV (we (q:=sEq [97] [97]) rfl oT))) (ef (cn (cn bV (fj (ai (aI rfl) aF) (tJ h0 h1)) (wo rfl rfl rfl ?_)) bV (wo rfl rfl rfl ?_)))))
  all_goals (simp;omega)
 |me s=>
  have hl:s.length≤10:=ho;have hx:∀x:S,x.length≤500->cY x=true:=λx hx=>fG hx;refine(bS (.str ([40] ++s++[41])) (ae.call (ns:=[je]) rfl ?_) rfl (.inl rfl))
  have add:∀{x y:S},(x++y).length≤500->ae (rY .add (.str x) (.str y)) I (.str (x++y)) I:=λ{x y} h=>ae.to ae.ok λB=>by
   show @Bool.rec (λY=>RE) RE.no (RE.ok (.str (iU x y)) B) (cY (iU x y))=_;rw[eM,fG h]
  refine kr ZP (λY Y=>rfl) (bU (bu (aI rfl) bV (we (q:=sEq [109] [110]) rfl oT)) (kq (oR (bu (aI rfl) bV (we (q:=sEq [109] [97]) rfl oT)) (bu (aI rfl) bV (we (q:=sEq [109] [109]) rfl oT))) (ef (cn (cn bV (fj (ai (aI rfl) aF) ae.ok) (add ?_)) bV (add ?_)))))
  all_goals (simp;omega)
 |ix s d=>
  refine c_ ho λhl h0 h1=>?_;clear ho;have ha:=sz h0 h1;have hd:=pq ha.1 ha.2;refine(bS (.ak ([40] ++s++(bif gI d 0 then [45] else [43])++fS (fR d)++[41])) (ae.call (ns:=[je]) rfl ?_) rfl (.inr rfl))
  have add:∀{x y:S},(x++y).length≤500->ae (rY .add (.str x) (.str y)) I (.str (x++y)) I:=λ{x y} h=>ae.to ae.ok λB=>by
   show @Bool.rec (λY=>RE) RE.no (RE.ok (.str (iU x y)) B) (cY (iU x y))=_;rw[eM,fG h]
  have sgn:∀{E:Env},a8 E je=.ok (.tup (.cons (.str [120]) (.cons (.str s) (.cons (.sym d) .nil))))->ae (w0 (gd .lt (h_ (cV je) (cC (.int (.ofNat 2)))) (cC (.int (.ofNat 0)))) (cC (.str [45])) (cC (.str [43])) K E) I (.str (bif gI d 0 then [45] else [43])) I:=λ{E} h=>by
   have hi:ae (h_ (cV je) (cC (.int (.ofNat 2))) K E) I (.sym d) I:=fi (aI h) bV ⟨[],[],trivial,λbC o'=>by kernel_rfl⟩;have hc:br (fy .lt (.sym d) (.int (.ofNat 0))) I (gI d 0) I:=br.ask;refine cW (gI d 0) (λhq=>?_) (λhq=>?_);rotate_left
   ·rw[hq] at hc;exact EW (bu hi bV hc) bV
   ·rw[hq] at hc;exact EX (bu hi bV hc) bV
  have hb:(bif gI d 0 then [45] else [43] :S).length=1:=by cases gI d 0<;>rfl
  refine kr ZP (λY Y=>rfl) (bU (bu (aI rfl) bV (we (q:=sEq [120] [110]) rfl oT)) (bU (oR (bu (aI rfl) bV (we (q:=sEq [120] [97]) rfl oT)) (bu (aI rfl) bV (we (q:=sEq [120] [109]) rfl oT))) (kq (bu (aI rfl) bV (we (q:=sEq [120] [120]) rfl oT)) (ef
   (cn (cn (cn (cn bV (aI rfl) (add ?_)) (sgn rfl) (add ?_)) (fj (ai (fj (σ₁:=I) (n:=3) (v:=.sym (fR d)) (ai (fi (x:=.sym d) (aI rfl) bV ⟨[],[],trivial,λbC o'=>by kernel_rfl⟩) aF) ⟨[],[],trivial,λbC o'=>by kernel_rfl⟩) aF) (tJ ha.1 ha.2)) (wo rfl rfl rfl ?_)) bV (wo rfl rfl rfl ?_))))))
  all_goals (simp only[dA,hb,ey,qy];lia)
end
noncomputable def js:List cX->S| [] =>[] |o::l=>[44] ++(o.txt++js l)
noncomputable def Ord.txt(o:Ord):S:=match o.ops with| [] =>o.w|p::l=>o.w++[32] ++(p.txt++js l)
noncomputable def sC:List cX->V| [] =>.nil|o::l=>.cons (.ak o.txt) (sC l)
section
variable{K:Kc}{I σ₁ σ₂:List O}{v w l acc y z:V}{x it:C}{t:Tg}{ts:List Nat}{E ε₁:Env}{n j:Nat}{ops:List cX}
theorem oU(h:ae (it K E) I v σ₁)(g:ae (dT x t v K (jn ts E) turns 0 .nil) σ₁ w σ₂):ae (j7 ts x t it K E) I w σ₂:=ae.and h g
theorem wb(hd:∀B,drawn v j B=.fin)(hs:bF (fk acc .nil)=true):ae (dT x t v K E (n+1) j acc) I (.loc (kB I)) (mE I (.list (fk acc .nil))):=
 ae.to (a:=λB=>jg (.list (fk acc .nil)) B) (bA [] [] trivial (λY Y=>rfl)) λB=>by
  show @RD.rec (λY=>RE) RE.no (s_ (fk acc V.nil) B) (λy=>kI x K (t y E B) B (λz B=>dT x t v K E n (aZ j) (.cons z acc) B)) (drawn v j B)=_;rw[hd];show @Bool.rec (λY=>RE) RE.no (jg (.list (fk acc .nil)) B) (bF (fk acc .nil))=_;exact ah hs rfl
theorem wt:∀(ops:List cX)(j:Nat),eW (eT ops) j=match ops[j]? with|some o=>.ok o.val|none=>.no
 | [],j=>by induction j using dM<;>rfl
 |o::l,0=>rfl
 |o::l,j+1=>by
  show eW (eT l) j=_;exact ah (wt l j) (ah (uc) rfl)
theorem N1:∀ops:List cX,aO (sC ops)=ops.length:=by
 intro zr
 induction zr with
 |nil=>
  exact rfl
 |cons o l bN=>
  exact congrArg aZ (bN)
theorem N2:∀(l:List cX)(o:cX),a_ (sC l) (.cons (.ak o.txt) .nil)=sC (l++[o]):=by
 intro zr
 induction zr with
 |nil=>
  exact @λo=>rfl
 |cons p l bN=>
  exact @λo=>congrArg (V.cons (.ak p.txt)) (bN o)
noncomputable abbrev U8(w l:V):Env:=.cons d_ w (.cons uT l .nil)
theorem ZQ(hK:∀I,∀o∈ops,ae (K 24 (.cons o.val .nil)) I (.ak o.txt) I)(hs:ops.length≤500){tl:Env}(ht:tl=.nil∨∃y,tl=.cons 6765637 y .nil):∀(n j:Nat)(acc:V),pO acc=true->fk acc .nil=sC (ops.take j)->j≤ops.length->ops.length - j<n->
  ae (dT (rZ 24 (aH (cV 6765637) ck)) (iX 6765637) (.lst (eT ops)) K (U8 w l) n j acc) I (.loc (kB I)) (mE I (.list (sC ops))):=by
 intro zr
 induction zr with
 |zero=>
  exact @λ_ _ _ _ _ h=>absurd h (eA _)
 |succ n bN=>
  exact @λj acc hl ha hj hn=>by
   refine kY (ops[j]?) (λhg=>?_) (λo hg=>?_)
   ·have hle:ops.length≤j:=iP.mp hg
    have ES:∀B,drawn (.lst (eT ops)) j B=.fin:=λB=>by
     show xj (eW (eT ops) j)=_;rw[wt,hg];rfl
    have ha:fk acc .nil=sC ops:=by exact ah ha (ah (nZ hle) rfl)
    have:=wb (I:=I) (K:=K) (x:=rZ 24 (aH (cV 6765637) ck)) (t:=iX 6765637) (E:=U8 w l) (n:=n) (acc:=acc) ES (by refine ah ha ?_;exact cU (by rw[N1];lia));rwa [ha] at this
   ·have hW:j<ops.length:=(cA.mp hg).1
    have ES:∀B,drawn (.lst (eT ops)) j B=.ok o.val:=λB=>by
     show xj (eW (eT ops) j)=_;rw[wt,hg];rfl
    refine ae.ET (ε₁:=.cons d_ w (.cons uT l (.cons 6765637 o.val .nil))) ES (λB=>by kernel_rfl) (eG (ai (aI rfl) aF) (hK _ o (jv hg))) ?_;refine bN (j+1) (.cons (.ak o.txt) acc) hl ?_ hW (by omega);show fk acc (.cons (.ak o.txt) .nil)=_;refine ah (vZ _ hl) (ah ha (ah n4 (ah hg ?_)));exact N2 _ _
theorem Gy:∀l:List cX,joinR [44] (sC l)=.ok (js l):=by
 intro zr
 induction zr with
 |nil=>
  exact rfl
 |cons o l bN=>
  exact by
   show kH (OS.ok [44]) (kH (OS.ok o.txt) (joinR [44] (sC l)))=_;refine ah (bN) ?_;show OS.ok (iU [44] (iU o.txt (js l)))=_;rw[eM,eM];rfl
theorem wu{o:Ord}(hK:∀I,∀p∈o.ops,ae (K 24 (.cons p.val .nil)) I (.ak p.txt) I)(hs:o.ops.length≤10)(hw:o.w.length≤10)(ht:o.txt.length≤200):
  ∃v bK,ae (aq f25 K (.cons (.str o.w) (.cons (.lst (eT o.ops)) .nil))) [] v bK/\(v=.str o.txt∨v=.ak o.txt):=by
 obtain⟨wd,ops,many⟩:=o
 induction ops using bE with
 |nil=>exact bA (.str wd) [.list .nil] ⟨[],[],trivial,λbC o'=>by kernel_rfl⟩ (.inl rfl)
 |cons p r=>
  refine(bA (.ak (wd++[32] ++(p.txt++js r))) [.list .nil,.list (sC (p::r))] (ae.call (ns:=[d_,uT]) (E:=U8 (.str wd) (.lst (eT (p::r)))) rfl ?_) (.inr rfl));have ht:(wd++[32] ++(p.txt++js r)).length≤200:=ht;have hw:wd.length≤10:=hw;refine bU (σ₁:=[.list .nil]) ⟨[],[],trivial,λbC o'=>by kernel_rfl⟩ (ef (cn (cn (x:=.str (wd++[32])) (σ₃:=[.list .nil]) (aI rfl) bV ?_) (J6 (σ₁:=[.list .nil]) (σ₂:=[.list .nil,.list (sC (p::r))]) bV (λY Y=>rfl) (ai (oU (aI rfl) (ZQ (I:=[.list .nil]) hK (bb (by assumption) (bW _ _)) (.inl rfl) turns 0 .nil rfl rfl (fN _) (by show(p::r).length - 0<600;have:(p::r).length≤10:=hs;exact dR (by assumption) (by decide)))) aF) (v:=.ak (p.txt++js r)) ?_) (wo rfl rfl rfl (bb (by assumption) (bW _ _)))))
  ·exact ae.to ae.ok λB=>by
    show @Bool.rec (λY=>RE) RE.no (RE.ok (.str (iU wd [32])) B) (cY (iU wd [32]))=_;rw[eM,fG (by simp;exact bb (by assumption) (bW _ _))]
  ·have h:=ae.m9 (I:=[O.list .nil,.list (sC (p::r))]) (v:=.ak (p.txt++js r)) (fG (s:=p.txt++js r) (by simp at ht ⊢;lia));refine ae.LR h λhs o=>?_;show xO false (kH (OS.ok p.txt) (joinR [44] (sC r))) _=_;refine ah (Gy r) ?_;show FJ false (iU p.txt (js r)) _=_;rw[eM];rfl
end
noncomputable def upB(c:Nat):Bool:=bB 65 c&&bB c 90
noncomputable def rI(s:S):Bool:=!s.isEmpty&&(s.all upB&&bB s.length 5)
noncomputable def nmB(s:S):Bool:=rI s||(s== [65,70,39])
noncomputable def mn(c:Nat):V:=dt EZ (.str [c])
noncomputable def cX.tk:cX->V->V
 |.nm _ s,t=>.cons (dt eN (.str s)) t
 |.me s,t=>.cons (mn 40) (.cons (dt eN (.str s)) (.cons (mn 41) t))
 |.nu b i,t=>.cons (dt pF (bif b then .int i else .sym i)) t
 |.ad i,t=>.cons (mn 40) (.cons (dt pF (.sym i)) (.cons (mn 41) t))
 |.ix s d,t=>.cons (mn 40) (.cons (dt eN (.str s)) (.cons (mn (bif gI d 0 then 45 else 43)) (.cons (dt pF (.sym (fR d))) (.cons (mn 41) t))))
noncomputable def jm:List cX->V| [] =>.nil|o::l=>.cons (mn 44) (o.tk (jm l))
noncomputable def eP:List cX->V| [] =>.nil|o::l=>o.tk (jm l)
noncomputable def Ord.tk(o:Ord):V:=.cons (dt eN (.str o.w)) (eP o.ops)
noncomputable def cX.fit:cX->Prop
 |.nm _ s=>nmB s=true
 |.me s=>rI s=true
 |.nu _ i=>0≤i/\i<65536
 |.ad i=>0≤i/\i<65536
 |.ix s d=>rI s=true/\ -128≤d/\d≤127
noncomputable def Ord.fit(o:Ord):Prop:=rI o.w=true/\o.ops.length≤4/\∀p∈o.ops,p.fit
section
variable{s r:S}{t:V}{o:cX}
theorem lj(h:rI s=true):s≠ [] /\(∀c∈s,65≤c/\c≤90)/\s.length≤5:=by
 simp only[rI,upB,cK,iy,c9] at h;refine c_ h λh1 h2 h3=>?_;clear h;exact bL (λe=>(by replace h1:=e▸h1;exact absurd h1 nF)) (λc hc=>⟨eB (h2 c hc).1,eB (h2 c hc).2⟩) (eB h3)
theorem tK{c:Nat}(h:65≤c/\c≤90):rF c=true/\kP c=false/\BW 97 122 c=false:=by
 refine(bL ?_ ?_ ?_)
 ·unfold rF;refine ah rH (ah (ez.mpr h.1) (ah (ez.mpr h.2) ?_));rfl
 ·unfold kP;refine ah rH ?_
  have:bB c 57=false:=by cases hb:bB c 57 with|false=>rfl|true=>have:=eB hb;omega
  rw[this,tR]
 ·refine ah rH ?_
  have:bB 97 c=false:=by cases hb:bB 97 c with|false=>rfl|true=>have:=eB hb;omega
  refine ah this ?_;rfl
theorem rJ(h:rI s=true):J3 s=true/\jr s:=by
 refine c_ (lj h) λh1 h2 Y=>?_
 induction s using bE with
 |nil=>exact absurd rfl h1
 |cons c r=>
  have hc:=tK (h2 c aW);refine⟨?_,λc hc=>(tK (h2 c hc)).2.2⟩;show(rF c&&(pT (kP c)&&r.all jk))=true;refine ah hc.1 (ah hc.2.1 (ah (show r.all jk=true from c9.mpr λx hx=>by unfold jk;rw[(tK (h2 x (aP _ hx))).1];rfl) ?_))
  rfl
noncomputable def Bh(r:S):Prop:=r=[] ∨∃q,r=44::q
theorem Bh.stop(h:Bh r):wi r=true:=by rcases h with rfl|⟨q,rfl⟩<;>rfl
theorem Bh.quote(h:Bh r):sEq (r.take 1) [39] =false:=by rcases h with rfl|⟨q,rfl⟩<;>rfl
theorem yS{i:Int}{v:V}(h0:0≤i)(h1:i<65536)(hv:jc (.sym i) v)(hr:wi r=true)(h:jl r t):jl (fS i++r) (.cons (dt pF v) t):=by
 refine bc (fX h0) λn kh=>?_;subst kh;exact jl.num n v hv (by omega) hr h
theorem E3(ho:o.fit)(hb:Bh r)(h:jl r t):jl (o.txt++r) (o.tk t):=by
 induction o with
 |nm k s=>
  have ho:(rI s||(s== [65,70,39]))=true:=ho
  rcases ly.mp ho with ho|ho
  ·exact jl.name s (rJ ho).1 hb.stop (.inr hb.quote) h
  ·have:=eq_of_beq ho;subst this;exact jl.af h
 |me s=>
  have e:cX.txt (.me s)++r=40::(s++(41::r)):=by simp[cX.txt]
  refine ah e ?_;exact .sign 40 (.inl rfl) (.name s (rJ ho).1 rfl (.inr rfl) (.sign 41 (.inr (.inl rfl)) h))
 |nu b i=>
  refine yS ho.1 ho.2 ?_ hb.stop h
  cases b
  ·exact jc.refl
  ·exact J_
 |ad i=>
  have e:cX.txt (.ad i)++r=40::(fS i++(41::r)):=by simp[cX.txt]
  refine ah e ?_;exact .sign 40 (.inl rfl) (yS ho.1 ho.2 jc.refl rfl (.sign 41 (.inr (.inl rfl)) h))
 |ix s d=>
  refine c_ ho λh1 h2 h3=>?_;clear ho;have ha:=sz h2 h3
  have e:cX.txt (.ix s d)++r=40::(s++((bif gI d 0 then 45 else 43)::(fS (fR d)++(41::r)))):=by
   cases hq:gI d 0<;>simp[cX.txt,hq]
  refine ah e ?_;refine .sign 40 (.inl rfl) (.name s (rJ h1).1 ?_ (.inr ?_) (.sign _ ?_ (yS ha.1 ha.2 jc.refl rfl (.sign 41 (.inr (.inl rfl)) h))))
  ·cases gI d 0<;>rfl
  ·cases gI d 0<;>rfl
  ·cases gI d 0
   ·exact .inr (.inr (.inr (.inl rfl)))
   ·exact .inr (.inr (.inr (.inr rfl)))
theorem E4:∀l:List cX,Bh (js l)| [] =>.inl rfl|o::l=>.inr ⟨_,rfl⟩
theorem Ke:∀{l:List cX},(∀p∈l,p.fit)->jl (js l) (jm l):=by
 intro zr
 induction zr with
 |nil=>
  exact @λ_=>.nil
 |cons o l bN=>
  exact @λh=>.sign 44 (.inr (.inr (.inl rfl))) (E3 (h o aW) (E4 l) (bN λp hp=>h p (aP _ hp)))
theorem N3{o:Ord}(h:o.fit):jl (32::o.txt) o.tk:=by
 obtain⟨w,ops,many⟩:=o;refine c_ h λh1 h2 h3=>?_;clear h;have hn:=(rJ h1).1;refine .skip ?_
 induction ops using bE with
 |nil=>
  have:=jl.name w (rest:=[]) hn rfl (.inr rfl) .nil;rwa [cM] at this
 |cons p l=>
  show jl (w++[32] ++(p.txt++js l)) _;rw[bH];exact .name w hn rfl (.inr rfl) (.skip (E3 (h3 p aW) (E4 l) (Ke λp hp=>h3 p (aP _ hp))))
noncomputable def okc(c:Nat):Prop:=(65≤c/\c≤90)∨(48≤c/\c≤57)∨c∈ [32,39,40,41,43,44,45]
noncomputable def Kf(s:S):Prop:=∀c∈s,okc c
theorem E5{c:Nat}(h:okc c):BW 97 122 c=false/\c≠10:=by
 rcases h with h|h|h
 ·exact⟨(tK h).2.2,by omega⟩
 ·exact⟨E2 h,by omega⟩
 ·simp only[aR,fw,or_false] at h
  rcases h with rfl|rfl|rfl|rfl|rfl|rfl|rfl<;>exact⟨rfl,by decide⟩
theorem Kf.low(h:Kf s):jr s:=λc hc=>(E5 (h c hc)).1
theorem yT{i:Int}(h0:0≤i):Kf (fS i):=by
 refine bc (fX h0) λn Ar=>?_;subst Ar;exactλc hc=>.inr (.inl (pk n c hc))
theorem gb{a b:S}(h:Kf a)(g:Kf b):Kf (a++b):=λc hc=>(bp.mp hc).elim (h c) (g c)
theorem jG{c:Nat}(h:c∈ [32,39,40,41,43,44,45]):Kf [c] :=λx hx=>by refine ah (aV.mp hx) ?_;exact .inr (.inr h)
theorem rK(h:rI s=true):Kf s:=λc hc=>.inl ((lj h).2.1 c hc)
theorem N4{a b:S}(h:jr a)(g:jr b):jr (a++b):=λc hc=>(bp.mp hc).elim (h c) (g c)
theorem N5{c:Nat}(h:BW 97 122 c=false):jr [c] :=λx hx=>by refine ah (aV.mp hx) ?_;exact h
theorem yU(ho:o.fit):Kf o.txt/\o.txt.length≤15:=by
 induction o with
 |nm k s=>
  have ho:(rI s||(s== [65,70,39]))=true:=ho
  rcases ly.mp ho with ho|ho
  ·exact⟨rK ho,by have:=(lj ho).2.2;show s.length≤15;omega⟩
  ·have:=eq_of_beq ho;subst this;exact⟨λc hc=>by simp[cX.txt] at hc;rcases hc with rfl|rfl|rfl<;>(unfold okc;decide),by simp[cX.txt]⟩
 |me s=>exact⟨gb (gb (jG (by decide)) (rK ho)) (jG (by decide)),by have:=(lj ho).2.2;simp[cX.txt];omega⟩
 |nu b i=>exact⟨yT ho.1,by have:=pq ho.1 ho.2;show(fS i).length≤15;omega⟩
 |ad i=>exact⟨gb (gb (jG (by decide)) (yT ho.1)) (jG (by decide)),by have:=pq ho.1 ho.2;simp[cX.txt];omega⟩
 |ix s d=>
  refine c_ ho λh1 h2 h3=>?_;clear ho;have ha:=sz h2 h3
  have:=pq ha.1 ha.2
  have:=(lj h1).2.2;refine⟨gb (gb (gb (gb (jG (by decide)) (rK h1)) (by cases gI d 0<;>exact jG (by decide))) (yT ha.1)) (jG (by decide)),?_⟩
  cases hq:gI d 0<;>(simp[cX.txt,hq];lia)
theorem N6:∀{l:List cX},(∀p∈l,p.fit)->Kf (js l)/\(js l).length≤16 * l.length:=by
 intro zr
 induction zr with
 |nil=>
  exact @λ_=>⟨λc hc=>(nomatch hc),bT _⟩
 |cons o l bN=>
  exact @λh=>by
   refine aD (yU (h o aW)) λa b=>?_;refine aD (bN λp hp=>h p (aP _ hp)) λc d=>?_;exact⟨gb (jG (by decide)) (gb a c),by simp[js];lia⟩
theorem yV{o:Ord}(h:o.fit):Kf o.txt/\o.txt.length≤80:=by
 obtain⟨w,ops,many⟩:=o;refine c_ h λh1 h2 h3=>?_;clear h;have hw:=(lj h1).2.2
 induction ops using bE with
 |nil=>exact⟨rK h1,by show w.length≤80;have:w.length≤5:=hw;omega⟩
 |cons p l=>
  refine aD (yU (h3 p aW)) λa b=>?_;refine aD (N6 λq hq=>h3 q (aP _ hq)) λc d=>?_;have h2:(p::l).length≤4:=h2;replace h2:=ey▸h2;have hw:w.length≤5:=hw;exact⟨gb (gb (rK h1) (jG (by decide))) (gb a c),by simp[Ord.txt];lia⟩
theorem N7(ho:o.fit):jr o.txt/\o.txt.length≤15:=⟨(yU ho).1.low,(yU ho).2⟩
theorem yW{o:Ord}(h:o.fit):jr o.txt/\o.txt.length≤80:=⟨(yV h).1.low,(yV h).2⟩
end
set_option backward.match.sparseCases false
noncomputable section
structure Eh where
 (oc lo hi jo bd:Int->Int) (ZR Qz Kg U9:Int->Prop)
noncomputable def C5(i:Int):V:=.cons (.sym i) .nil
noncomputable def ZS(i j:Int):V:=.cons (.sym i) (C5 j)
noncomputable def rL:List cX->List Int| [] =>[] |.nu false i::l=>i::rL l|.ad i::l=>i::rL l|_::l=>rL l
noncomputable def pP:List cX->List Int| [] =>[] |.ix _ d::l=>d::pP l|_::l=>pP l
noncomputable def xc(o:Ord):Bool:=sEq o.w [68,66]
noncomputable def ku(s:S)(l:List S):Bool:=l.any λt=>sEq t s
noncomputable def Kh:List S:=[[66],[67],[68],[69],[72],[76],[65],[70],[73],[82],[73,88,72],[73,88,76],[73,89,72],[73,89,76]]
noncomputable def C6:List S:=[[66,67],[68,69],[72,76],[83,80],[65,70],[65,70,39],[73,88],[73,89]]
noncomputable def C7:List S:=[[78,90],[90],[78,67],[80,79],[80,69],[80],[77]]
noncomputable def Bk:List S:=[[72,76],[66,67],[68,69],[83,80],[67],[73,88],[73,89]]
noncomputable def E6:List S:=[[73,88],[73,89]]
noncomputable def nkL:Nk->List S|.r=>Kh|.p=>C6|.f=>C7
noncomputable def wx:cX->Bool|.nm k s=>ku s (nkL k)|.me s=>ku s Bk|.ix s _=>ku s E6|.nu true i=>ek (mY 0 i) (gI i 65536)|_=>true
noncomputable def wy:cX->Bool|.nu _ _=>true|_=>false
noncomputable def U':cX->Bool|.ix _ _=>true|_=>false
noncomputable def U_:cX->Bool|.nm _ _=>true|_=>false
noncomputable def ZT:List cX->Bool| [] =>true| [_] =>true| [_,_] =>true| [a,b,c] =>wy a&&(U' b&&U_ c)| [a,b,c,d] =>wy a&&(wy b&&(wy c&&wy d))|_=>false
noncomputable def Bm:List S:=[[73,70],[77,65,67,82,79],[69,76,83,69],[69,78,68,73,70],[69,78,68,77],[69,81,85],[68,69,70,76],[61],[79,82,71],[69,78,68],[68,69,70,66],[68,69,70,77],[68,87],[68,69,70,87],[68,83],[68,69,70,83],[65,70]]
noncomputable def wz(o:Ord):Bool:=rI o.w&&(!(ku o.w Bm)&&(bB o.ops.length 4&&(bB 1 o.many&&(bB o.many 4&&(o.ops.all wx&&ZT o.ops)))))
section
variable(h:Eh)(at':Int)
noncomputable def n1S(f:Int->V)(v:V):OV:=V.e8 .no (λx r=>V.qU .no (λn=>V.j4 .no (.ok (.lst (f n))) r) x) v
noncomputable def n2S(f:Int->V)(v:V):OV:=V.e8 .no (λx r=>V.qU .no (λn=>V.e8 .no (λY z=>V.j4 .no (.ok (.lst (f n))) z) r) x) v
noncomputable def n1P(f:Int->Prop)(v:V):Prop:=V.e8 False (λx Y=>V.qU False f x) v
noncomputable def n2P(at':Int)(f:Int->Prop)(v:V):Prop:=V.e8 False (λx r=>V.qU False (λn=>V.e8 False (λy Y=>V.qU False (λx=>x=at'/\f n) y) r) x) v
noncomputable def TE:Tr (Kc->V->Mm->RE):=gn (gn (gn (gn gQ 66 (yR (n1S λi=>C5 (h.oc i)) (n1P h.ZR))) 67 (yR (n1S λi=>ZS (h.lo i) (h.hi i)) (n1P h.Qz))) 68 (yR (n1S λi=>C5 (h.bd i)) (n1P h.U9))) 69 (yR (n2S λi=>C5 (h.jo i)) (n2P at' h.Kg))
noncomputable def xd(o:Ord):RE:=aq f90 (dW (TE h at') K0 8) (.cons (.str o.w) (.cons (.lst (eT o.ops)) (.cons (.sym at') .nil))) ⟨[],[],[]⟩
noncomputable def ZU(r:RE):OV:=@RE.rec (λY=>OV) .no (λv B=>JG 8 ⟨B.bk,[],[]⟩ v) r
end
section
variable(acV:V)(a:Int)(G:Prop)(e:Nat->Int)(sg:Int->Int)(h:Eh)(at':Int)
noncomputable def nh(l:List (Option Nat))(e:Nat->Int):Nat->V:=λk=>match l with| [] =>.nil|some n::l=>.cons (.int (.ofNat n)) (nh l e (k+1))|none::l=>.cons (.sym (e k)) (nh l e (k+1))
noncomputable def lq(b:List (Option Nat)):List Nat:=(rL (qf .nil 0 True (nh b ab 0) ab λi=>i).ops).map dz
noncomputable def wA(b:List (Option Nat)):List Nat:=(pP (qf .nil 0 True (nh b ab 0) ab λi=>i).ops).map dz
noncomputable def N8(s:Nat):Prop:=bif a9 s 8 then h.ZR (e s) else bif a9 s 16 then h.Qz (e s) else(at'=at'/\h.Kg (e s))
noncomputable def Ki(s:Nat):V:=bif a9 s 8 then C5 (h.oc (e s)) else bif a9 s 16 then ZS (h.lo (e s)) (h.hi (e s)) else C5 (h.jo (e s))
noncomputable def E7:List Nat->V| [] =>.nil|s::l=>a_ (Ki e h s) (E7 l)
noncomputable def Bn(sl:List Nat):List Nat->V| [] =>E7 e h sl|d::l=>.cons (.sym (h.bd (sg (e d)))) (Bn sl l)
noncomputable def N9(sl dl:List Nat):List (Option Nat)->V
 |some n::l=>.cons (.int (.ofNat n)) (N9 sl dl l)
 |none::some n::_=>a_ (Bn e sg h sl dl) (.cons (.int (.ofNat n)) .nil)
 |_=>Bn e sg h sl dl
noncomputable def yX(s:Nat):List Nat:=bif a9 s 8 then [s] else bif a9 s 16 then [s - 8,s - 7] else [s - 16]
noncomputable def QA:V->V|.cons a r=>.cons (.tup (.cons (.str [110]) (.cons a .nil))) (QA r)|_=>.nil
noncomputable def N_(sl dl:List Nat):List (Option Nat)->Nat->List Nat
 |some n::l,k=>k::N_ sl dl l (k+1)
 |none::some n::_,k=>(dl++sl.flatMap yX)++[k+1]
 |_,_=>dl++sl.flatMap yX
noncomputable def sX(s:Nat):Bool:=a9 s 16||aC s 17
noncomputable def posB(o:Ord)(b:List (Option Nat)):Bool:=(lq b).all sX&&((wA b).all (λk=>a9 k 8)&&N_ (lq b) (wA b) b 0==cy o.many)
noncomputable def q1(b:List (Option Nat)):RE×OV:=(wm acV a G (nh b e 0) e sg,cZ 8 ⟨xa (wm acV a G (nh b e 0) e sg),[],[]⟩ (xb (wm acV a G (nh b e 0) e sg)))
noncomputable def YJ(b:List (Option Nat)):RE×OV:=(RE.ok (xb (wm acV a G (nh b e 0) e sg)) ⟨xa (wm acV a G (nh b e 0) e sg),[],gV (abS (wm acV a G (nh b e 0) e sg)).length (acV=acV/\a=a/\G)⟩,OV.ok (qf acV a G (nh b e 0) e sg).val)
noncomputable def q2(b:List (Option Nat)):Bool:=wz (qf acV a G (nh b e 0) e sg)
noncomputable def q3(b:List (Option Nat)):List Int×List Int:=(rL (qf acV a G (nh b e 0) e sg).ops,pP (qf acV a G (nh b e 0) e sg).ops)
noncomputable def q3'(b:List (Option Nat)):List Int×List Int:=((lq b).map e,(wA b).map λk=>sg (e k))
noncomputable def q4(o:Ord):RE×OV:=bif xc o then(RE.no,OV.ok (eT o.ops)) else(xd h at' o,ZU (xd h at' o))
noncomputable def q4'(o:Ord)(bs:V)(m:Nat)(b:List (Option Nat)):RE×OV:=bif xc o then(RE.no,OV.ok (QA (pH o.many bs))) else(RE.ok (xb (xd h at' o)) ⟨xa (xd h at' o),[],(lq b).map (N8 e h at')++(gV m ((wA b).map λk=>h.U9 (sg (e k)))).flatten⟩,OV.ok (.lst (N9 e sg h (lq b) (wA b) b)))
noncomputable def C8(l:List (List (Option Nat)))(m:Nat):Prop:=l.map (λb=>(q1 acV a G e sg b,q2 acV a G e sg b,q3 acV a G e sg b,q4 h at' (qf acV a G (nh b e 0) e sg),bif xc (qf acV a G (nh b e 0) e sg) then true else posB (qf acV a G (nh b e 0) e sg) b))=l.map λb=>(YJ acV a G e sg b,true,q3' e sg b,q4' e sg h at' (qf acV a G (nh b e 0) e sg) (nh b e 0) m b,true)
end
noncomputable def oW(p:Nat->List (Option Nat))(out:List Nat):List (List (Option Nat)):=((cy 256).filter λo=>!(out.contains o)).map p
end
set_option backward.match.sparseCases true
theorem wB(n:Int):mF n 255=n % 256:=by rw[rb];exact bitAnd_m8 n
theorem rM(n:Int):mF n 65535=n % 65536:=by rw[rb];exact bitAnd_m16 n
theorem pQ{a b:Int}(h:a≤b):mY a b=true:=by rw[eL];exact decide_eq_true h
theorem ZV{a b:Int}(h:¬a≤b):mY a b=false:=by rw[eL];exact decide_eq_false h
theorem yY{i j:Int}(h:i=j):jc (.lst (.cons (.sym i) .nil)) (.lst (.cons (.sym j) .nil)):=h▸jc.refl
section
variable{n g a:Int}{K:Kc}
theorem Gz(h0:0≤n)(h1:n<256):fD (aq f66 K) (.cons (.sym n) .nil) (.lst (C5 n)):=
 (ji _ (.loc 0) (.lst (C5 (mF n 255))) [.list (C5 (mF n 255))] gF.refl rfl ⟨hB [true,true],[mY n 255=true,mY (-128) n=true],(bL (pQ (by omega)) (pQ (by omega)) trivial),by kernel_rfl⟩ rfl (yY (by rw[wB];exact tZ (by assumption) (by assumption))))
theorem Kj(h0:0≤n)(h1:n<65536):fD (aq f67 K) (.cons (.sym n) .nil) (.lst (ZS (n % 256) (n / 256))):=by
 have hs:mF (B3 n 8) 255=n / 256:=by
  rw[wB]
  have:B3 n 8=n / 256:=by show lB n 256=_;exact Int.fdiv_eq_ediv_of_nonneg n (by decide)
  refine ah this ?_;omega
 refine(ji _ (.loc 0) (.lst (ZS (mF n 255) (mF (B3 n 8) 255))) [.list (ZS (mF n 255) (mF (B3 n 8) 255))] gF.refl rfl ⟨hB [true,true],[mY n 65535=true,mY (-32768) n=true],(bL (pQ (by omega)) (pQ (by omega)) trivial),by kernel_rfl⟩ rfl ?_);rw[wB,hs];exact jc.refl
theorem C9(h0: -128≤n)(h1:n≤127):fD (aq f68 K) (.cons (.sym n) .nil) (.lst (C5 (n % 256))):=
 (ji _ (.loc 0) (.lst (C5 (mF n 255))) [.list (C5 (mF n 255))] gF.refl rfl ⟨hB [true,true],[mY n 127=true,mY (-128) n=true],(bL (pQ h1) (pQ h0) trivial),by kernel_rfl⟩ rfl (yY (wB n)))
noncomputable def wC(g a:Int):Int:=(g - a - 2+32768)% 65536 - 32768
theorem Kk(h0: -128≤wC g a)(h1:wC g a≤127):fD (aq f69 K) (.cons (.sym g) (.cons (.sym a) .nil)) (.lst (C5 ((g - a - 2)% 256))):=by
 have hf:bw (g - a - 2+32768) 65536=(g - a - 2+32768)% 65536:=nK _ (by decide)
 have hw:bP (bw (aS (bP (bP g a) 2) 32768) 65536) 32768=wC g a:=by
  show bw (g - a - 2+32768) 65536 - 32768=_;refine ah hf ?_;rfl
 refine(ji _ (.loc 0) (.lst (C5 (mF (bP (bw (aS (bP (bP g a) 2) 32768) 65536) 32768) 255))) [.list (C5 (mF (bP (bw (aS (bP (bP g a) 2) 32768) 65536) 32768) 255))] gF.refl rfl ⟨hB [true,true],[mY (bP (bw (aS (bP (bP g a) 2) 32768) 65536) 32768) 127=true,mY (-128) (bP (bw (aS (bP (bP g a) 2) 32768) 65536) 32768)=true,zb .sub a=true],(ib (pQ (by refine ah hw ?_;exact h1)) (pQ (by refine ah hw ?_;exact h0)) rfl trivial),by kernel_rfl⟩ rfl (yY ?_));rw[hw,wB];unfold wC;omega
noncomputable def lr(b:Int):Int:=bif BZ b 127 then b - 256 else b
theorem C':fD (aq f2 K) (.cons (.sym n) .nil) (.sym (lr n)):=by
 unfold lr
 cases hq:BZ n 127 with
 |true=>exact ji _ (.sym (n - 256)) (.sym (n - 256)) [] gF.refl rfl ⟨hB [true],[BZ n 127=true],⟨hq,trivial⟩,by kernel_rfl⟩ rfl jc.refl
 |false=>exact ji _ (.sym n) (.sym n) [] gF.refl rfl ⟨hB [false],[BZ n 127=false],⟨hq,trivial⟩,by kernel_rfl⟩ rfl jc.refl
theorem C_{I:List O}:ae (aq f2 K (.cons (.sym n) .nil)) I (.sym (lr n)) I:=by
 unfold lr
 cases hq:BZ n 127 with
 |true=>exact⟨hB [true],[BZ n 127=true],⟨hq,trivial⟩,λY Y=>by kernel_rfl⟩
 |false=>exact⟨hB [false],[BZ n 127=false],⟨hq,trivial⟩,λY Y=>by kernel_rfl⟩
end
section
variable{mm:Nat->Int}{K:Kc}{I:List O}{a:Nat}
theorem rN(mm:Nat->Int):∀(B:Mm)(n k m:Nat),bZ (cZ (m+1) B) (w6 mm n k)=.ok (w6 mm n k)
 |B,0,k,m=>rfl
 |B,n+1,k,m=>by
  show dN (OV.ok (.sym (mm k))) (bZ (cZ (m+1) B) (w6 mm n (k+1))) V.cons=_;refine ah (rN mm B n (k+1) m) ?_;rfl
theorem pv(mm:Nat->Int)(i:Int):km (.cons (.lst (mem mm)) (.cons (.sym i) .nil)):=by
 show dN (gO (bZ (cZ 7 ⟨[],[],[]⟩)) V.lst (mem mm)) (OV.ok (.cons (.sym i) .nil)) V.cons=_
 have:gO (bZ (cZ 7 ⟨[],[],[]⟩)) V.lst (mem mm)=.ok (.lst (mem mm)):=by
  show @OV.rec (λY=>OV) OV.no (λl=>OV.ok (.lst l)) (bZ (cZ 7 ⟨[],[],[]⟩) (w6 mm 256 0))=_;exact ah (rN mm _ 256 0 6) rfl
 refine ah this ?_;rfl
noncomputable def oE(mm:Nat->Int)(a k:Nat):Int:=mm ((a+k)% 256)
theorem toN{i:Int}{n:Nat}(h:i=(n:Int)):dz (i % 256)=n % 256:=by subst h;rfl
theorem sD(i:Int)(k:Nat)(hi:i=((a+k:Nat):Int)):ae (aq f0 K (.cons (.lst (mem mm)) (.cons (.sym i) .nil))) [] (.sym (oE mm a k)) [] :=by
 have:=A' mm i (by omega) K;rw[toN hi] at this;exact this
theorem Dc{i k j:Int}(h:aS i k=j){v:V}:gF (.cons v (.cons (.rV i k) .nil)) (.cons v (.cons (.sym j) .nil)):=h▸cP jc.refl (cP (λY Y Y Y Y q=>q) gF.refl)
theorem Kl{k:Nat}{w:V}(hw:jc (.sym (oE mm a k)) w):fD (aq f0 K0) (.cons (.lst (mem mm)) (.cons (.rV a (ab k)) .nil)) w:=
 (ji _ _ _ [] (Dc (j:=((a+k:Nat):Int)) rfl) (pv mm _) ((sD _ k rfl).z) rfl hw)
theorem Bo{f k:Nat}{g:Kc->V->Mm->RE}(e:Tr.get (λY Y Y=>RE.no) gQ f=g):kJ gQ (k+1) f=g (kJ gQ k):=by
 funext l B;show Tr.get _ gQ f (kJ gQ k) l B=_;exact ah e rfl
theorem Oa{x y:Int}(h0:0≤x)(h1:x<256)(h2:0≤y):iOr x (z7 y 8)=x+256 * y:=by
 refine bc (fX h0) λm i7=>?_;subst i7;refine bc (fX h2) λn mf=>?_;subst mf
 have e:z7 (n:Int) 8=ab (n <<< 8):=by
  show(n:Int)* ((2 ^ 8:Nat):Int)=_;rw[Nat.shiftLeft_eq];rfl
 refine ah e ?_;show ab (m ||| (n <<< 8))=_;rw[Nat.or_comm,←Nat.shiftLeft_add_eq_or_of_lt (show m<2 ^ 8 by exact gT.mp (by assumption)),Nat.shiftLeft_eq];show((n * 2 ^ 8+m:Nat):Int)=_;omega
noncomputable def wE(mm:Nat->Int)(a k:Nat):Int:=oE mm a k+256 * oE mm a (k+1)
noncomputable def gE(mm:Nat->Int)(a k:Nat):Int:=((a:Int)+k+1+lr (oE mm a k))% 65536
theorem Ob(hm:∀i,0≤mm i/\mm i<256){k:Nat}:fD (aq f1 K0) (.cons (.lst (mem mm)) (.cons (.rV a (ab k)) .nil)) (.sym (wE mm a k)):=by
 refine(ji _ (.sym (iOr (oE mm a k) (z7 (oE mm a (k+1)) 8))) _ [] (Dc (j:=((a+k:Nat):Int)) rfl) (pv mm _) (ae.z ?_) rfl ?_)
 ·have p2:ae (K0 0 (.cons (.lst (mem mm)) (.cons (.sym (mF (aS ((a+k:Nat):Int) 1) 65535)) .nil))) [] (.sym (oE mm a (k+1))) [] :=by
   refine ah (show K0 0=aq f0 (kJ gQ 3) from Bo (k:=3) rfl) ?_
   have:=A' mm (mF (aS ((a+k:Nat):Int) 1) 65535) (by rw[rM];exact Int.emod_nonneg _ (by decide)) (kJ gQ 3);rw[rM] at this ⊢
   have e:dz (aS ((a+k:Nat):Int) 1 % 65536 % 256)=(a+(k+1))% 256:=by
    show dz ((((a+k:Nat):Int)+1)% 65536 % 256)=_;omega
   rw[e] at this;exact this
  have p1:ae (K0 0 (.cons (.lst (mem mm)) (.cons (.sym ((a+k:Nat):Int)) .nil))) [] (.sym (oE mm a k)) [] :=by
   refine ah (show K0 0=aq f0 (kJ gQ 3) from Bo (k:=3) rfl) ?_;exact sD _ k rfl
  have abU:BP .shl (oE mm a (k+1)) 8=true:=by
   have:=hm ((a+(k+1))% 256);show mid (mm ((a+(k+1))% 256))=true;unfold mid;rw[bj,bj,decide_eq_true (by omega),decide_eq_true (by omega)];rfl
  refine ae.call (ns:=[fT,aB]) rfl (ef (cn (eG (ai (aI rfl) (ai (aI rfl) aF)) p1) (cn (x:=.sym (z7 (oE mm a (k+1)) 8)) (σ₃:=[]) (eG (ai (aI rfl) (ai (cn (cn (aI rfl) bV (x:=.sym (aS ((a+k:Nat):Int) 1)) (σ₃:=[]) ⟨[],[],trivial,λY Y=>by kernel_rfl⟩) bV ⟨[],[],trivial,λY Y=>by kernel_rfl⟩) aF)) p2) bV ?_) ?_))
  ·exact⟨[],[BP .shl (oE mm a (k+1)) 8=true],⟨abU,trivial⟩,λY Y=>by kernel_rfl⟩
  ·exact⟨[],[zb .or (z7 (oE mm a (k+1)) 8)=true],⟨rfl,trivial⟩,λY Y=>by kernel_rfl⟩
 ·refine ah (Oa (x:=oE mm a k) (y:=oE mm a (k+1)) (hm _).1 (hm _).2 (hm _).1) ?_;exact jc.refl
theorem Oc(hm:∀i,0≤mm i/\mm i<256){k:Nat}:fD (aq f7 K0) (.cons (.lst (mem mm)) (.cons (.rV a (ab k)) .nil)) (.sym (gE mm a k)):=by
 refine(ji _ (.sym (mF (aS (aS ((a+k:Nat):Int) 1) (lr (oE mm a k))) 65535)) _ [] (Dc (j:=((a+k:Nat):Int)) rfl) (pv mm _) (ae.z ?_) rfl ?_)
 ·have p1:ae (K0 0 (.cons (.lst (mem mm)) (.cons (.sym ((a+k:Nat):Int)) .nil))) [] (.sym (oE mm a k)) [] :=by
   refine ah (show K0 0=aq f0 (kJ gQ 3) from Bo (k:=3) rfl) ?_;exact sD _ k rfl
  have p2:ae (K0 2 (.cons (.sym (oE mm a k)) .nil)) [] (.sym (lr (oE mm a k))) [] :=by
   refine ah (show K0 2=aq f2 (kJ gQ 3) from Bo (k:=3) rfl) ?_;exact C_
  exact ae.call (ns:=[fT,aB]) rfl (ef (cn (cn (x:=.sym (aS (aS ((a+k:Nat):Int) 1) (lr (oE mm a k)))) (σ₃:=[]) (cn (aI rfl) bV (x:=.sym (aS ((a+k:Nat):Int) 1)) (σ₃:=[]) ⟨[],[],trivial,λY Y=>by kernel_rfl⟩) (eG (ai (eG (ai (aI rfl) (ai (aI rfl) aF)) p1) aF) p2) ⟨[],[zb .add (lr (oE mm a k))=true],⟨rfl,trivial⟩,λY Y=>by kernel_rfl⟩) bV ⟨[],[],trivial,λY Y=>by kernel_rfl⟩))
 ·rw[rM];unfold gE;refine ah (show aS (aS ((a+k:Nat):Int) 1) (lr (oE mm a k))=(a:Int)+k+1+lr (oE mm a k) by show((a+k:Nat):Int)+1+_=_;rfl) ?_;exact jc.refl
end
set_option tactic.hygienic true
variable(acV:V)(a:Int)(G:Prop)(e:Nat->Int)(sg:Int->Int)(h:Eh)(at':Int)
theorem abV:C8 acV a G e sg h at' (oW (λo=>[some o,none,none,none]) [203,221,237,253]) 1:=by unfold C8;kernel_rfl
theorem abW:C8 acV a G e sg h at' (oW (λo=>[some 203,some o,none,none]) []) 1:=by unfold C8;kernel_rfl
theorem abX:C8 acV a G e sg h at' (oW (λo=>[some 237,some o,none,none]) []) 1:=by unfold C8;kernel_rfl
theorem abY:C8 acV a G e sg h at' (oW (λo=>[some 221,some o,none,none]) [203]) 1:=by unfold C8;kernel_rfl
theorem abZ:C8 acV a G e sg h at' (oW (λo=>[some 253,some o,none,none]) [203]) 1:=by unfold C8;kernel_rfl
theorem ab0:C8 acV a G e sg h at' (oW (λo=>[some 221,some 203,none,some o]) []) 2:=by unfold C8;kernel_rfl
theorem ab1:C8 acV a G e sg h at' (oW (λo=>[some 253,some 203,none,some o]) []) 2:=by unfold C8;kernel_rfl
set_option tactic.hygienic false
noncomputable section
noncomputable def eE(mm:Nat->Int)(a i:Nat):Int:=if i<8 then oE mm a i else if i<16 then wE mm a (i - 8) else gE mm a (i - 16)
noncomputable def hE(a:Nat):Eh:=⟨λi=>i,λi=>i % 256,λi=>i / 256,λg=>(g - a - 2)% 256,λd=>d % 256,λn=>0≤n/\n<256,λn=>0≤n/\n<65536,λg=> -128≤wC g a/\wC g a≤127,λd=> -128≤d/\d≤127⟩
noncomputable def GE(mm:Nat->Int)(a:Nat)(bs:V):Prop:=(∀k w,eW bs k=.ok w->fD (aq f0 K0) (.cons (.lst (mem mm)) (.cons (.rV a (ab k)) .nil)) w)/\
 (∀k,k<8->fD (aq f1 K0) (.cons (.lst (mem mm)) (.cons (.rV a (ab k)) .nil)) (.sym (eE mm a (8+k))))/\
 (∀k,k<8->fD (aq f7 K0) (.cons (.lst (mem mm)) (.cons (.rV a (ab k)) .nil)) (.sym (eE mm a (16+k))))
noncomputable def R23(l w:V):Prop:=∃mm a bs,fD (aq f23 (dW (TD (mem mm) (ab a) (GE mm a bs) bs (eE mm a) lr) K0 8)) l w
noncomputable def V_(l w:V):Prop:=∃a:Nat,yy (aq f90 (dW (TE (hE a) (ab a)) K0 8)) l w
noncomputable def oX(mm:Nat->Int)(a:Nat):List Nat->V| [] =>.nil|k::l=>.cons (.sym (oE mm a k)) (oX mm a l)
noncomputable def rO(mm:Nat->Int)(a:Nat):List Nat->V->Prop
 | [],v=>v=.nil
 |k::l,v=>∃x r,v=.cons (.tup (.cons (.str [110]) (.cons x .nil))) r/\(x=.sym (oE mm a k)∨x=.int (oE mm a k))/\rO mm a l r
structure mq(mm:Nat->Int)(a:Nat)(o:Ord):Prop where
 fit:o.fit
 known:wz o=true
 dec:R23 (.cons (.lst (mem mm)) (.cons (.sym (ab a)) .nil)) o.val
 enc:xc o=true/\rO mm a (cy o.many) (eT o.ops)∨xc o=false/\V_ (.cons (.str o.w) (.cons (.lst (eT o.ops)) (.cons (.sym (ab a)) .nil))) (.lst (oX mm a (cy o.many)))
end
section
variable{mm:Nat->Int}{a:Nat}{b:List (Option Nat)}
theorem rP{n:Int}(h0:0≤n)(h1:n<256): -128≤lr n/\lr n≤127/\lr n % 256=n:=by
 unfold lr;rw[x5]
 by_cases h:n>127
 ·refine ah (decide_eq_true h) ?_;show -128≤n - 256/\n - 256≤127/\(n - 256)% 256=n;omega
 ·refine ah (decide_eq_false h) ?_;show -128≤n/\n≤127/\n % 256=n;omega
theorem GA{k:Nat}(h:k<8):eE mm a k=oE mm a k:=if_pos h
theorem QB{k:Nat}(h:k<8):eE mm a (8+k)=wE mm a k:=by unfold eE;rw[if_neg (by omega),if_pos (by exact n6 (by assumption) _),n7]
theorem ZW{k:Nat}:eE mm a (16+k)=gE mm a k:=by unfold eE;rw[if_neg (by omega),if_neg (by omega),n7]
theorem Od(hm:∀i,0≤mm i/\mm i<256)(s:Nat):0≤eE mm a s/\eE mm a s<65536:=by
 unfold eE
 split
 ·have:0≤oE mm a s/\oE mm a s<256:=hm _;omega
 ·split
  ·have h1:0≤oE mm a (s - 8)/\oE mm a (s - 8)<256:=hm _;have h2:0≤oE mm a (s - 8+1)/\oE mm a (s - 8+1)<256:=hm _;unfold wE;omega
  ·unfold gE;omega
noncomputable def bOk(mm:Nat->Int)(a:Nat)(b:List (Option Nat)):Prop:=b.length=4/\∀(k n:Nat),b[k]? =some (some n)->oE mm a k=(n:Int)
theorem E8(e:Nat->Int):∀(b:List (Option Nat))(j k:Nat),eW (nh b e j) k=match b[k]? with|some (some n)=>.ok (.int (.ofNat n))|some none=>.ok (.sym (e (j+k)))|none=>.no
 | [],j,k=>by induction k using dM<;>rfl
 |x::b,j,0=>by induction x<;>rfl
 |x::b,j,k+1=>by
  have:=E8 e b (j+1) k;replace this:=(show j+1+k=j+(k+1) by exact lO _ _ _)▸this;refine ah (uc) (eV this ?_)
  induction x<;>rfl
theorem ab2(hm:∀i,0≤mm i/\mm i<256)(hb:bOk mm a b):GE mm a (nh b (eE mm a) 0):=by
 refine(bL (λk w hw=>?_) (λk hk=>?_) (λk hk=>?_))
 ·refine Kl ?_;rw[E8] at hw;refine kY (b[k]?) (λhq=>?_) (λx hq=>?_)
  ·replace hw:=hq▸hw;exact absurd hw nO
  ·replace hw:=hq▸hw;have hk:k<4:=by have:=(cA.mp hq).1;replace this:=hb.1▸this;exact this
   induction x with
   |none=>refine DS hw ?_;rw[d8,GA (bb (by assumption) (bW _ _))];exact jc.refl
   |some n=>refine DS hw ?_;refine ah (hb.2 k n hq) ?_;exact J_
 ·refine ah (QB hk) ?_;exact Ob hm
 ·refine ah ZW ?_;exact Oc hm
theorem Km{p:Prop}(h:p):∀n,AllP (gV n p):=by
 intro zr
 induction zr with
 |zero=>
  exact trivial
 |succ n bN=>
  exact⟨h,bN⟩
theorem Bp{H:Type}{f:H->Prop}:∀{l:List H},(∀x∈l,f x)->AllP (l.map f):=by
 intro zr
 induction zr with
 |nil=>
  exact @λ_=>trivial
 |cons x l bN=>
  exact @λh=>⟨h x aW,bN λy hy=>h y (aP _ hy)⟩
theorem GB{l:List Prop}(h:AllP l):∀n,AllP (gV n l).flatten:=by
 intro zr
 induction zr with
 |zero=>
  exact trivial
 |succ n bN=>
  exact by refine ah zq (ah List.flatten_cons ?_);exact h.app (bN)
theorem pw{s:S}{l:List S}(h:ku s l=true):s∈l:=by
 refine aL (lJ.mp h) λt ht e=>?_;rw[fP] at e;exact eq_of_beq e▸ht
theorem GC:∀{l:List cX},l.all wx=true->(∀i∈rL l,0≤i/\i<65536)->(∀d∈pP l, -128≤d/\d≤127)->∀p∈l,p.fit:=by
 intro zr
 induction zr with
 |nil=>
  exact @λ_ _ _ p hp=>nomatch hp
 |cons o l bN=>
  exact @λhk hn hd p hp=>by
   rw[iO,cK] at hk
   have sub:∀i∈rL l,i∈rL (o::l):=λi hi=>by
    induction o with
    |nu b j=>cases b;exact aP _ hi;exact hi
    |ad j=>exact aP _ hi
    |_=>exact hi
   have ab3:∀i∈pP l,i∈pP (o::l):=λi hi=>by
    induction o with
    |ix s d=>exact aP _ hi
    |_=>exact hi
   rcases aR.mp hp with rfl|hp
   ·have h1:=hk.1
    induction p with
    |nm k s=>
     have:∀t∈nkL k,nmB t=true:=by induction k<;>decide
     exact this s (pw h1)
    |me s=>
     have:∀t∈Bk,rI t=true:=by decide
     exact this s (pw h1)
    |nu b i=>
     induction b with
     |false=>exact hn i aW
     |true=>
      have h1:ek (mY 0 i) (gI i 65536)=true:=h1;rw[vw,cK,eL,bj,decide_eq_true_iff,decide_eq_true_iff] at h1;exact h1
    |ad i=>exact hn i aW
    |ix s d=>
     have:∀t∈E6,rI t=true:=by decide
     exact⟨this s (pw h1),hd d aW⟩
   ·exact bN hk.2 (λi hi=>hn i (sub i hi)) (λi hi=>hd i (ab3 i hi)) p hp
theorem xC(B:Mm)(n:Nat):∀l:List cX,bZ (cZ (n+2) B) (eT l)=.ok (eT l):=by
 intro zr
 induction zr with
 |nil=>
  exact rfl
 |cons o l bN=>
  exact by
   have h1:cZ (n+2) B o.val=.ok o.val:=by
    induction o with
    |nu b i=>induction b<;>rfl
    |_=>rfl
   show dN (cZ (n+2) B o.val) (bZ (cZ (n+2) B) (eT l)) V.cons=_;refine ah h1 (ah (bN) ?_);rfl
theorem wD(B:Mm)(l:List cX):bZ (cZ 7 B) (eT l)=.ok (eT l):=xC B 5 l
theorem mr{B:Mm}{l:V}(h:bZ (cZ 7 B) l=.ok l):cZ 8 B (.lst l)=.ok (.lst l):=by
 show @OV.rec (λY=>OV) OV.no (λl=>OV.ok (.lst l)) (bZ (cZ 7 B) l)=_;exact ah h rfl
theorem Bq:∀(l m:List Nat),a_ (oX mm a l) (oX mm a m)=oX mm a (l++m):=by
 intro zr
 induction zr with
 |nil=>
  exact @λm=>rfl
 |cons k l bN=>
  exact @λm=>congrArg (V.cons (.sym (oE mm a k))) (bN m)
theorem le_app{v v' w w':V}(h:gF v v')(g:gF w w')(hv:pO v=true)(hv':pO v'=true):gF (a_ v w) (a_ v' w'):=by
 intro X hp Z M us q
 have split:∀{v w:V},pO v=true->∀{us:List aa},VL X hp Z M (a_ v w) us->∃xs ys,us=xs++ys/\VL X hp Z M v xs/\VL X hp Z M w ys:=by
  intro v w hv
  induction v with
  |nil=>intro us q;exact dy [] us rfl rfl q
  |cons a r _ ih=>
   intro us q;refine bJ q λx xs fF q1 q2=>?_;clear q;subst fF;refine bJ (ih hv q2) λys zs l_ q3 q4=>?_;subst l_;exact dy (x::ys) zs rfl (dy x ys rfl q1 q3) q4
  |_=>exact absurd hv nT
 refine bJ (split hv q) λxs ys kg q1 q2=>?_;subst kg;exact mN (h _ _ _ _ _ q1) (g _ _ _ _ _ q2)
theorem wF:∀l:List Nat,pO (oX mm a l)=true| [] =>rfl|_::l=>wF l
theorem Br{e:Nat->Int}{h:Eh}(s:Nat):pO (Ki e h s)=true:=by
 unfold Ki
 cases a9 s 8 with
 |true=>rfl
 |false=>cases a9 s 16<;>rfl
theorem Kn{v w:V}(hv:pO v=true)(hw:pO w=true):pO (a_ v w)=true:=by
 induction v with
 |cons a r _ ih=>exact ih hv
 |nil=>exact hw
 |_=>exact absurd hv nT
theorem xD{e:Nat->Int}{h:Eh}:∀l:List Nat,pO (E7 e h l)=true| [] =>rfl|s::l=>Kn (Br s) (xD l)
theorem Dd{s:Nat}(h:sX s=true):s<8∨(∃k,k<8/\s=8+k)∨s=17:=by
 unfold sX at h
 rcases ly.mp h with h|h
 ·have:=cF.mp h
  by_cases q:s<8
  ·exact .inl q
  ·exact .inr (.inl ⟨s - 8,by omega,by omega⟩)
 ·exact .inr (.inr (eJ h))
theorem QC{x y:Nat}(h:x<y):a9 x y=true:=cF.mpr h
theorem QD{x y:Nat}(h:¬x<y):a9 x y=false:=by cases q:a9 x y with|false=>rfl|true=>exact absurd (cF.mp q) h
theorem ZX(hm:∀i,0≤mm i/\mm i<256): -128≤wC (gE mm a 1) a/\wC (gE mm a 1) a≤127/\(gE mm a 1 - a - 2)% 256=oE mm a 1:=by
 refine c_ (rP (hm ((a+1)% 256)).1 (hm ((a+1)% 256)).2) λh1 h2 h3=>?_;have h1: -128≤lr (oE mm a 1):=h1;have h2:lr (oE mm a 1)≤127:=h2;have h3:lr (oE mm a 1)% 256=oE mm a 1:=h3;unfold wC gE
 generalize lr (oE mm a 1)=z at *
 generalize oE mm a 1=y at *
 omega
theorem Ko(hm:∀i,0≤mm i/\mm i<256){s:Nat}(hs:sX s=true):N8 (eE mm a) (hE a) (ab a) s/\gF (Ki (eE mm a) (hE a) s) (oX mm a (yX s)):=by
 have ho:∀k,0≤oE mm a k/\oE mm a k<256:=λk=>hm _;unfold N8 Ki yX
 rcases Dd hs with h|⟨k,hk,rfl⟩|rfl
 ·refine ah (QC h) ?_;show(0≤eE mm a s/\eE mm a s<256)/\gF (.cons (.sym (eE mm a s)) .nil) (.cons (.sym (oE mm a s)) .nil);refine ah (GA h) ?_;exact⟨ho s,gF.refl⟩
 ·refine ah (QD (by omega)) (ah (QC (show 8+k<16 by exact n6 (by assumption) _)) ?_);show(0≤eE mm a (8+k)/\eE mm a (8+k)<65536)/\gF (.cons (.sym (eE mm a (8+k)% 256)) (.cons (.sym (eE mm a (8+k) / 256)) .nil)) (.cons (.sym (oE mm a (8+k - 8))) (.cons (.sym (oE mm a (8+k - 7))) .nil));refine ah (QB hk) (ah (show 8+k - 8=k by lia) (ah (show 8+k - 7=k+1 by lia) ?_));have h1:=ho k;have h2:=ho (k+1);unfold wE
  generalize oE mm a k=x at *
  generalize oE mm a (k+1)=y at *
  refine⟨by omega,?_⟩;refine ah (show(x+256 * y)% 256=x by omega) (ah (show(x+256 * y) / 256=y by omega) ?_);exact gF.refl
 ·refine c_ (ZX (a:=a) hm) λg1 g2 g3=>?_;show((ab a=ab a)/\ -128≤wC (eE mm a (16+1)) a/\wC (eE mm a (16+1)) a≤127)/\gF (.cons (.sym ((eE mm a (16+1) - a - 2)% 256)) .nil) (.cons (.sym (oE mm a 1)) .nil);refine ah ZW (ah g3 ?_);exact⟨(bL rfl g1 g2),gF.refl⟩
theorem Oe(hm:∀i,0≤mm i/\mm i<256):∀{l:List Nat},l.all sX=true->gF (E7 (eE mm a) (hE a) l) (oX mm a (l.flatMap yX)):=by
 intro zr
 induction zr with
 |nil=>
  exact @λ_=>gF.refl
 |cons s l bN=>
  exact @λh=>by
   rw[iO,cK] at h;show gF (a_ _ _) (oX mm a (yX s++l.flatMap yX));rw[←Bq];exact le_app (Ko hm h.1).2 (bN h.2) (Br s) (wF _)
theorem rQ(hm:∀i,0≤mm i/\mm i<256){sl:List Nat}(hs:sl.all sX=true):∀{l:List Nat},l.all (λk=>a9 k 8)=true->gF (Bn (eE mm a) lr (hE a) sl l) (oX mm a (l++sl.flatMap yX))/\pO (Bn (eE mm a) lr (hE a) sl l)=true:=by
 intro zr
 induction zr with
 |nil=>
  exact @λ_=>⟨Oe hm hs,xD _⟩
 |cons k l bN=>
  exact @λh=>by
   rw[iO,cK] at h;refine aD (bN h.2) λh1 h2=>?_;have hk:=cF.mp h.1;refine⟨cP ?_ h1,h2⟩;show jc (.sym (lr (eE mm a k)% 256)) _;refine ah (GA hk) (ah ((rP (hm ((a+k)% 256)).1 (hm ((a+k)% 256)).2:_/\_/\lr (oE mm a k)% 256=oE mm a k).2.2) ?_);exact jc.refl
theorem Kq(hm:∀i,0≤mm i/\mm i<256){sl dl:List Nat}(hs:sl.all sX=true)(hd:dl.all (λk=>a9 k 8)=true):∀{b:List (Option Nat)}{j:Nat},(∀(k n:Nat),b[k]? =some (some n)->oE mm a (j+k)=(n:Int))->gF (N9 (eE mm a) lr (hE a) sl dl b) (oX mm a (N_ sl dl b j))
 | [],j,_=>(rQ hm hs hd).1
 |some n::l,j,h=>by
  refine cP ?_ (Kq hm hs hd (b:=l) (j:=j+1) λk n hk=>by refine eV (h (k+1) n (by simpa using hk)) ?_;congr 1;exact lO _ _ _);refine ah (show oE mm a j=(n:Int) from h 0 n rfl) ?_;exact le_int
 |none::some n::l,j,h=>by
  show gF (a_ _ _) (oX mm a ((dl++sl.flatMap yX)++[j+1]));rw[←Bq];refine le_app (rQ hm hs hd).1 (cP ?_ gF.refl) (rQ hm hs hd).2 (wF _);refine ah (show oE mm a (j+1)=(n:Int) from h 1 n rfl) ?_;exact le_int
 | [none],j,_=>(rQ hm hs hd).1
 |none::none::l,j,_=>(rQ hm hs hd).1
theorem ZY(hb:bOk mm a b){n:Nat}(hn:n≤4):rO mm a (cy n) (QA (pH n (nh b (eE mm a) 0))):=by
 have gen:∀(n j:Nat)(b:List (Option Nat)),n≤b.length->j+b.length≤4->(∀(k m:Nat),b[k]? =some (some m)->oE mm a (j+k)=(m:Int))->rO mm a (e6 j n) (QA (pH n (nh b (eE mm a) j))):=by
  intro n
  induction n with
  |zero=>intro j b _ _ _;rfl
  |succ n ih=>
   intro j b h1 h2 h3
   induction b with
   |nil=>exact absurd h1 (zN _)
   |cons x b=>
    have h1:n+1≤b.length+1:=h1;have h2:j+(b.length+1)≤4:=h2;have r:=ih (j+1) b (Nat.le_of_lt_succ (by assumption)) (by lia) λk m hk=>by refine eV (h3 (k+1) m (by simpa using hk)) ?_;congr 1;exact lO _ _ _
    refine ah lG ?_
    induction x with
    |none=>exact dy _ _ rfl (.inl (by exact ah (GA (by omega)) rfl)) r
    |some m=>exact dy _ _ rfl (.inr (by refine ah (show oE mm a j=(m:Int) from h3 0 m rfl) ?_;rfl)) r
 refine ah t9 ?_;exact gen n 0 b (by refine ah hb.1 ?_;exact hn) (by refine ah hb.1 ?_;exact bT _) λk m hk=>by rw[d8];exact hb.2 k m hk
theorem le_zero{v:V}{i:Int}:gF (.cons v (.cons (.sym i) .nil)) (.cons v (.cons (.rV i (ab 0)) .nil)):=
 cP jc.refl (cP (λX h Z M u ⟨t,e⟩=>⟨t,by refine ah e ?_;congr 1;exact(tX i).symm⟩) gF.refl)
theorem Kr(mm:Nat->Int)(i k:Int):km (.cons (.lst (mem mm)) (.cons (.rV i k) .nil)):=by
 show dN (cZ 8 ⟨[],[],[]⟩ (.lst (mem mm))) (OV.ok (.cons (.rV i k) .nil)) V.cons=_;refine ah (mr (rN mm _ 256 0 6)) ?_;rfl
theorem qg(hm:∀i,0≤mm i/\mm i<256)(hb:bOk mm a b){l:List (List (Option Nat))}{m:Nat}(h:C8 (mem mm) (ab a) (GE mm a (nh b (eE mm a) 0)) (eE mm a) lr (hE a) (ab a) l m)(hl:b∈l):∃o,mq mm a o:=by
 have h:=iA.mp h b hl;simp only[Prod.mk.injEq] at h;refine aa4 h λh1 h2 h3 h4 h5=>?_;clear h
 generalize hG:GE mm a (nh b (eE mm a) 0)=G at *
 have g:G:=by refine eV hG ?_;exact ab2 hm hb
 obtain⟨o,hO⟩:∃o,o=qf (mem mm) (ab a) G (nh b (eE mm a) 0) (eE mm a) lr:=⟨_,rfl⟩;have r1:=(eC h1).1;have r2:cZ 8 ⟨xa (wm (mem mm) (ab a) G (nh b (eE mm a) 0) (eE mm a) lr),[],[]⟩ (xb (wm (mem mm) (ab a) G (nh b (eE mm a) 0) (eE mm a) lr))=OV.ok (qf (mem mm) (ab a) G (nh b (eE mm a) 0) (eE mm a) lr).val:=(eC h1).2;have ZZ:wz (qf (mem mm) (ab a) G (nh b (eE mm a) 0) (eE mm a) lr)=true:=h2;have hn:rL (qf (mem mm) (ab a) G (nh b (eE mm a) 0) (eE mm a) lr).ops=(lq b).map (eE mm a):=(eC h3).1;have hd:pP (qf (mem mm) (ab a) G (nh b (eE mm a) 0) (eE mm a) lr).ops=(wA b).map λk=>lr (eE mm a k):=(eC h3).2;rw[←hO] at r2 ZZ hn hd h4 h5;unfold q4 q4' at h4;have Va:=ZZ;simp only[wz,cK,iy] at Va;refine HK Va λb1 b2 b3 b4 b5 b6 Y=>?_;clear Va
 have Z0:xc o=false->(wA b).all (λk=>a9 k 8)=true/\(lq b).all sX=true/\N_ (lq b) (wA b) b 0=cy o.many:=λhq=>by
  replace h5:=hq▸h5;have h5:posB o b=true:=h5;simp only[posB,cK] at h5;exact bL h5.2.1 h5.1 (eq_of_beq h5.2.2)
 have ES:∀d∈pP o.ops, -128≤d/\d≤127:=λd Wa=>by
  refine cBool (xc o) (λhq=>?_) (λhq=>?_)
  ·replace Wa:=hd▸Wa;refine aL (dC.mp Wa) λk hk vq=>?_;subst vq
   have:=cF.mp (c9.mp (Z0 hq).1 k hk);show -128≤lr (eE mm a k)/\lr (eE mm a k)≤127;refine ah (GA this) ?_
   have:=rP (hm ((a+k)% 256)).1 (hm ((a+k)% 256)).2;exact⟨this.1,this.2.1⟩
  ·replace h4:=hq▸h4;have h4:eT o.ops=QA (pH o.many (nh b (eE mm a) 0)):=OV.okI (eC h4).2
   have:∀(l:List cX)(v:V),eT l=QA v->pP l=[] :=by
    intro l
    induction l with
    |nil=>intro v _;rfl
    |cons p l ih=>
     intro v hv
     induction v with
     |cons x r=>
      have hv:V.cons p.val (eT l)=.cons (.tup (.cons (.str [110]) (.cons x .nil))) (QA r):=hv;injection hv with e1 e2
      induction p with
      |ix s d=>injection e1 with e1;injection e1 with e1 e3;injection e3 with e3 e4;exact V.noConfusion e4
      |_=>exact ih r e2
     |_=>exact V.noConfusion hv
   replace Wa:=(this o.ops _ h4)▸Wa
   cases Wa
 have ab4:o.fit:=(bL b1 (eB b3) (GC b6 (λi hi=>by replace hi:=hn▸hi;refine aL (dC.mp hi) λs Y pY=>?_;subst pY;exact Od hm s) ES));refine⟨o,ab4,ZZ,(HM mm a (nh b (eE mm a) 0) ?_),?_⟩
 ·refine ah hG ?_;refine(ji _ (xb (wm (mem mm) (ab a) G (nh b (eE mm a) 0) (eE mm a) lr)) _ (xa (wm (mem mm) (ab a) G (nh b (eE mm a) 0) (eE mm a) lr)) le_zero (Kr mm _ _) (bA [] _ (Km (bL rfl rfl g) _) r1) r2 jc.refl)
 ·refine cW (xc o) (λhq=>?_) (λhq=>?_);rotate_left
  ·replace h4:=hq▸h4;have h4:eT o.ops=QA (pH o.many (nh b (eE mm a) 0)):=OV.okI (eC h4).2;exact .inl ⟨rfl,h4▸ZY hb (eB b5)⟩
  ·refine c_ (Z0 hq) λd1 d2 d3=>?_;replace h4:=hq▸h4;have h6:=(eC h4).1;have h7:=(eC h4).2;have h6:xd (hE a) (ab a) o=RE.ok (xb (xd (hE a) (ab a) o)) ⟨xa (xd (hE a) (ab a) o),[],(lq b).map (N8 (eE mm a) (hE a) (ab a))++(gV m ((wA b).map λk=>(hE a).U9 (lr (eE mm a k)))).flatten⟩:=h6;have h7:ZU (xd (hE a) (ab a) o)=.ok (.lst (N9 (eE mm a) lr (hE a) (lq b) (wA b) b)):=h7
   have hdb:∀k∈wA b, -128≤lr (eE mm a k)/\lr (eE mm a k)≤127:=λk hk=>by
    refine ah (GA (cF.mp (c9.mp d1 k hk))) ?_
    have:=rP (hm ((a+k)% 256)).1 (hm ((a+k)% 256)).2;exact⟨this.1,this.2.1⟩
   have due:=Kq (j:=0) hm d2 d1 (b:=b) λk n hk=>by rw[d8];exact hb.2 k n hk
   replace due:=d3▸due;refine .inr ⟨rfl,a,_,xb (xd (hE a) (ab a) o),_,xa (xd (hE a) (ab a) o),gF.refl,?_,(bA [] _ ?_ h6),?_,yQ due⟩
   ·show dN (OV.ok (.str o.w)) (dN (cZ 8 ⟨[],[],[]⟩ (.lst (eT o.ops))) (OV.ok (.cons (.sym (ab a)) .nil)) V.cons) V.cons=_;refine ah (mr (wD _ _)) ?_;rfl
   ·exact(Bp λs hs=>(Ko hm (c9.mp d2 s hs)).1).app (GB (Bp hdb) m)
   ·replace h7:=h6▸h7;exact h7
end
section
variable{mm:Nat->Int}{a:Nat}
theorem ip{p:Nat->List (Option Nat)}{out:List Nat}{o:Nat}(h:o<256)(n:o∉out):p o∈oW p out:=
 dC.mpr (aQ o (List.mem_filter.mpr ⟨List.mem_range.mpr h,by simpa using n⟩) rfl)
theorem qh{w x y z:Option Nat}(h0:∀n,w=some n->oE mm a 0=(n:Int))(h1:∀n,x=some n->oE mm a 1=(n:Int))(h2:∀n,y=some n->oE mm a 2=(n:Int))(h3:∀n,z=some n->oE mm a 3=(n:Int)):bOk mm a [w,x,y,z] :=
 ⟨rfl,λk n hk=>by
  match k,hk with
  |0,hk=>exact h0 n (iS hk)
  |1,hk=>exact h1 n (iS hk)
  |2,hk=>exact h2 n (iS hk)
  |3,hk=>exact h3 n (iS hk)
  |k+4,hk=>exact nomatch hk⟩
theorem Vb(hm:∀i,0≤mm i/\mm i<256)(a:Nat):∃o,mq mm a o:=by
 have key:∀k,∃n:Nat,oE mm a k=(n:Int)/\n<256:=λk=>by
  refine aD (hm ((a+k)% 256)) λh0 h1=>?_;refine bc (fX h0) λn hn=>?_;refine(aQ n hn ?_)
  have:mm ((a+k)% 256)<256:=h1;lia
 refine aL (key 0) λn0 e0 l0=>?_;refine aL (key 1) λn1 e1 l1=>?_;refine aL (key 3) λn3 e3 l3=>?_;have no:∀k n:Nat,(none:Option Nat)=some n->oE mm a k=(n:Int):=λk n h=>nomatch h;have is:∀{k x:Nat},oE mm a k=(x:Int)->∀n:Nat,some x=some n->oE mm a k=(n:Int):=λh n e=>by refine Af e ?_;exact h
 by_cases h:n0∈ [203,221,237,253]
 ·simp only[aR,fw,or_false] at h
  rcases h with rfl|rfl|rfl|rfl
  ·exact qg hm (qh (is e0) (is e1) (no 2) (no 3)) (abW _ _ _ _ _ _ _) (ip (p:=λo=>[some 203,some o,none,none]) l1 (λh=>nomatch h))
  ·by_cases h1:n1=203
   ·subst h1;exact qg hm (qh (is e0) (is e1) (no 2) (is e3)) (ab0 _ _ _ _ _ _ _) (ip (p:=λo=>[some 221,some 203,none,some o]) l3 (λh=>nomatch h))
   ·exact qg hm (qh (is e0) (is e1) (no 2) (no 3)) (abY _ _ _ _ _ _ _) (ip (p:=λo=>[some 221,some o,none,none]) l1 (by simpa using h1))
  ·exact qg hm (qh (is e0) (is e1) (no 2) (no 3)) (abX _ _ _ _ _ _ _) (ip (p:=λo=>[some 237,some o,none,none]) l1 (λh=>nomatch h))
  ·by_cases h1:n1=203
   ·subst h1;exact qg hm (qh (is e0) (is e1) (no 2) (is e3)) (ab1 _ _ _ _ _ _ _) (ip (p:=λo=>[some 253,some 203,none,some o]) l3 (λh=>nomatch h))
   ·exact qg hm (qh (is e0) (is e1) (no 2) (no 3)) (abZ _ _ _ _ _ _ _) (ip (p:=λo=>[some 253,some o,none,none]) l1 (by simpa using h1))
 ·exact qg hm (qh (is e0) (no 1) (no 2) (no 3)) (abV _ _ _ _ _ _ _) (ip (p:=λo=>[some o,none,none,none]) l0 h)
noncomputable section
def TX:Tr (Kc->V->Mm->RE):=gn gQ 24 (gm (fD (aq Zt K0)))
def KX:Kc:=dW TX K0 4
def R25:V->V->Prop:=fD (aq f25 KX)
def TY:Tr (Kc->V->Mm->RE):=gn (gn gQ 23 (gm R23)) 25 (gm R25)
def KY:Kc:=dW TY KX 4
end
theorem Og{p:cX}(h:p.fit):fD (aq Zt K0) (.cons p.val .nil) (.ak p.txt):=by
 have ho:p.ok:=by
  induction p with
  |nm k s=>
   have:=(N7 h).2;have hh:(rI s||(s== [65,70,39]))=true:=h;show s.length≤10
   rcases ly.mp hh with hh|hh
   ·have:=(lj hh).2.2;exact bb (by assumption) (bW _ _)
   ·refine ah (eq_of_beq hh) ?_;decide
  |me s=>have:=(lj h).2.2;show s.length≤10;exact bb (by assumption) (bW _ _)
  |ix s d=>have:=(lj h.1).2.2;exact⟨by exact bb (by assumption) (bW _ _),h.2⟩
  |nu b i=>exact h
  |ad i=>exact h
 refine bQ (Kb (K:=K0) (I:=[]) ho) λv hr hv hk=>?_;refine(ji (.cons p.val .nil) v v [] gF.refl ?_ hr.z ?_ ?_)
 ·exact xC _ 6 [p]
 ·rcases hk with rfl|rfl<;>rfl
 ·rcases hk with rfl|rfl
  ·exact le_str
  ·exact jc.refl
theorem Ks{o:Ord}(h:o.fit):R25 (.cons (.str o.w) (.cons (.lst (eT o.ops)) .nil)) (.ak o.txt):=by
 have h24:∀I,∀p∈o.ops,ae (KX 24 (.cons p.val .nil)) I (.ak p.txt) I:=λI p hp=>by
  show ae (dW TX K0 (3+1) 24 _) I _ I;refine ah (lh (g:=gm (fD (aq Zt K0))) rfl) ?_;exact eO (Og (h.2.2 p hp))
 refine a6 (wu h24 (by have:=h.2.1;exact bb (by assumption) (bW _ _)) (by have:=(lj h.1).2.2;exact bb (by assumption) (bW _ _)) (by have:=(yW h).2;exact bb (by assumption) (bW _ _))) λv bK hr hk=>?_;refine(ji _ v v bK gF.refl ?_ hr.z ?_ ?_)
 ·show dN (OV.ok (.str o.w)) (dN (cZ 8 ⟨[],[],[]⟩ (.lst (eT o.ops))) (OV.ok .nil) V.cons) V.cons=_;refine ah (mr (wD _ _)) ?_;rfl
 ·rcases hk with rfl|rfl<;>rfl
 ·rcases hk with rfl|rfl
  ·exact le_str
  ·exact jc.refl
theorem Oh{o:Ord}(h:mq mm a o):ae (aq Zu KY (.cons (.lst (mem mm)) (.cons (.sym (ab a)) .nil))) [] (.tup (.cons (.ak o.txt) (.cons (.int (ab o.many)) .nil))) [] :=by
 have h23:ae (KY 23 (.cons (.lst (mem mm)) (.cons (.sym (ab a)) .nil))) [] o.val [] :=by
  show ae (dW TY KX (3+1) 23 _) [] _ [];refine ah (lh (g:=gm R23) rfl) ?_;exact eO h.dec
 have h25:ae (KY 25 (.cons (.str o.w) (.cons (.lst (eT o.ops)) .nil))) [] (.ak o.txt) [] :=by
  show ae (dW TY KX (3+1) 25 _) [] _ [];refine ah (lh (g:=gm R25) rfl) ?_;exact eO (Ks h.fit)
 refine ae.call (ns:=[fT,aB]) rfl ?_;refine kr (eG (ai (aI rfl) (ai (aI rfl) aF)) h23) (λY Y=>rfl) ?_;exact ef (hH (ai (eG (ai (aI rfl) (ai (aI rfl) aF)) h25) (ai (aI rfl) aF)) rfl)
noncomputable def Z1:V->V->Prop:=fD (aq Zu KY)
theorem E9{o:Ord}(h:mq mm a o):Z1 (.cons (.lst (mem mm)) (.cons (.sym (ab a)) .nil)) (.tup (.cons (.ak o.txt) (.cons (.sym (ab o.many)) .nil))):=
 (ji _ _ _ [] gF.refl (pv mm _) ((Oh h).z) rfl (wk (cP jc.refl (cP le_int gF.refl))))
end
noncomputable section
noncomputable def KP:Kc:=kJ gQ 24
noncomputable def oV(b:Bool)(i:Int):V:=bif b then .int i else .sym i
noncomputable def Bs(v:V):V:=.tup (.cons (.str pF) (.cons v .nil))
noncomputable def cX.tree:cX->V
 |.nm k s=>.tup (.cons (.str k.s) (.cons (.str s) .nil))
 |.me s=>.tup (.cons (.str [109]) (.cons (.str s) .nil))
 |.nu b i=>.tup (.cons (.str [110]) (.cons (Bs (oV b i)) .nil))
 |.ad i=>.tup (.cons (.str [97]) (.cons (Bs (.sym i)) .nil))
 |.ix s d=>.tup (.cons (.str [120]) (.cons (.str s) (.cons (.tup (.cons (.str [116,119,111]) (.cons (.str [bif gI d 0 then 45 else 43]) (.cons (Bs (.int (.ofNat 0))) (.cons (Bs (.sym (fR d))) .nil))))) .nil)))
noncomputable def gG:List cX->V| [] =>.nil|o::l=>.cons o.tree (gG l)
noncomputable def GD:List cX->V| [] =>.nil|o::l=>.cons (.lst (o.tk .nil)) (GD l)
noncomputable def rn(f:Fn)(l:V):RE:=aq f KP l ⟨[],[],[]⟩
noncomputable def gP(f:Fn)(l:V):RE×OV×OV:=(rn f l,cZ 8 ⟨xa (rn f l),[],[]⟩ (xb (rn f l)),JG 8 ⟨xa (rn f l),[],[]⟩ (xb (rn f l)))
noncomputable def xe(f:Fn)(l w:V):RE×OV×OV:=(RE.ok (xb (rn f l)) ⟨xa (rn f l),[],[]⟩,OV.ok w,OV.ok w)
noncomputable def sE(f:Fn)(l w:V):Prop:=gP f l=xe f l w
end
section
variable{f:Fn}{l w:V}
theorem Kt(h:sE f l w)(hf:km l):fD (aq f KP) l w:=
 (ji l _ _ _ gF.refl hf (bA [] [] trivial ((eC h).1)) ((eC (eC h).2).1) jc.refl)
theorem yZ(h:sE f l w)(hf:km l):yy (aq f KP) l w:=
 (ji l _ _ _ gF.refl hf (bA [] [] trivial ((eC h).1)) ((eC (eC h).2).2) jc.refl)
theorem Oi:(Kh.map λs=>gP yz (.cons (.lst (cX.tk (.nm .r s) .nil)) .nil))=Kh.map λs=>xe yz (.cons (.lst (cX.tk (.nm .r s) .nil)) .nil) (cX.tree (.nm .r s)):=by kernel_rfl
theorem Oj:(C6.map λs=>gP yz (.cons (.lst (cX.tk (.nm .p s) .nil)) .nil))=C6.map λs=>xe yz (.cons (.lst (cX.tk (.nm .p s) .nil)) .nil) (cX.tree (.nm .p s)):=by kernel_rfl
theorem Ol:(C7.map λs=>gP yz (.cons (.lst (cX.tk (.nm .f s) .nil)) .nil))=C7.map λs=>xe yz (.cons (.lst (cX.tk (.nm .f s) .nil)) .nil) (cX.tree (.nm .f s)):=by kernel_rfl
theorem Vc:(Bk.map λs=>gP yz (.cons (.lst (cX.tk (.me s) .nil)) .nil))=Bk.map λs=>xe yz (.cons (.lst (cX.tk (.me s) .nil)) .nil) (cX.tree (.me s)):=by kernel_rfl
noncomputable def GF(s:S)(c:Nat)(n:Int):V:=.cons (mn 40) (.cons (dt eN (.str s)) (.cons (mn c) (.cons (dt pF (.sym n)) (.cons (mn 41) .nil))))
noncomputable def Bt(s:S)(c:Nat)(n:Int):V:=.tup (.cons (.str [120]) (.cons (.str s) (.cons (.tup (.cons (.str [116,119,111]) (.cons (.str [c]) (.cons (Bs (.int (.ofNat 0))) (.cons (Bs (.sym n)) .nil))))) .nil)))
theorem ab5(n:Int):sE yz (.cons (.lst (GF [73,88] 43 n)) .nil) (Bt [73,88] 43 n):=by unfold sE;kernel_rfl
theorem Z2(n:Int):sE yz (.cons (.lst (GF [73,88] 45 n)) .nil) (Bt [73,88] 45 n):=by unfold sE;kernel_rfl
theorem ab6(n:Int):sE yz (.cons (.lst (GF [73,89] 43 n)) .nil) (Bt [73,89] 43 n):=by unfold sE;kernel_rfl
theorem Z3(n:Int):sE yz (.cons (.lst (GF [73,89] 45 n)) .nil) (Bt [73,89] 45 n):=by unfold sE;kernel_rfl
theorem ab7(b:Bool)(i:Int):sE yz (.cons (.lst (cX.tk (.nu b i) .nil)) .nil) (cX.tree (.nu b i)):=by induction b<;>(unfold sE;kernel_rfl)
theorem ab8(i:Int):sE yz (.cons (.lst (cX.tk (.ad i) .nil)) .nil) (cX.tree (.ad i)):=by unfold sE;kernel_rfl
theorem Z4(b:Bool)(i:Int):sE f50 (.cons (.lst (cX.tk (.nu b i) .nil)) .nil) (Bs (oV b i)):=by induction b<;>(unfold sE;kernel_rfl)
end
set_option backward.match.sparseCases false
noncomputable section
noncomputable def qj(c:Nat)(s:S)(n:Int)(t:V):V:=match c with
 |0=>.cons (dt eN (.str s)) t
 |1=>.cons (mn 40) (.cons (dt eN (.str s)) (.cons (mn 41) t))
 |2=>.cons (dt pF (.int n)) t
 |3=>.cons (dt pF (.sym n)) t
 |4=>.cons (mn 40) (.cons (dt pF (.sym n)) (.cons (mn 41) t))
 |5=>.cons (mn 40) (.cons (dt eN (.str s)) (.cons (mn 43) (.cons (dt pF (.sym n)) (.cons (mn 41) t))))
 |_=>.cons (mn 40) (.cons (dt eN (.str s)) (.cons (mn 45) (.cons (dt pF (.sym n)) (.cons (mn 41) t))))
noncomputable def c7:List Nat:=[0,1,2,3,4,5,6]
noncomputable def one(v:V):V:=.cons v .nil
end
theorem Om(s:S)(n:Int):c7.map (λc=>gP zj (one (.lst (qj c s n .nil))))=c7.map λc=>xe zj (one (.lst (qj c s n .nil))) (.lst (one (.lst (qj c s n .nil)))):=by kernel_rfl
theorem Oo(s:S)(n:Int)(s':S)(n':Int):(c7.flatMap λc=>c7.map λd=>gP zj (one (.lst (qj c s n (.cons (mn 44) (qj d s' n' .nil))))))=c7.flatMap λc=>c7.map λd=>xe zj (one (.lst (qj c s n (.cons (mn 44) (qj d s' n' .nil))))) (.lst (.cons (.lst (qj c s n .nil)) (one (.lst (qj d s' n' .nil))))):=by kernel_rfl
theorem Oq(n:Int)(s':S)(n':Int)(ru:S):([2,3].flatMap λc=>[5,6].map λd=>gP zj (one (.lst (qj c [] n (.cons (mn 44) (qj d s' n' (.cons (mn 44) (qj 0 ru 0 .nil))))))))=[2,3].flatMap λc=>[5,6].map λd=>xe zj (one (.lst (qj c [] n (.cons (mn 44) (qj d s' n' (.cons (mn 44) (qj 0 ru 0 .nil))))))) (.lst (.cons (.lst (qj c [] n .nil)) (.cons (.lst (qj d s' n' .nil)) (one (.lst (qj 0 ru 0 .nil)))))):=by kernel_rfl
theorem Ot(n n1 n2 n3:Int):([2,3].flatMap λc=>[2,3].flatMap λd=>[2,3].flatMap λe=>[2,3].map λg=>gP zj (one (.lst (qj c [] n (.cons (mn 44) (qj d [] n1 (.cons (mn 44) (qj e [] n2 (.cons (mn 44) (qj g [] n3 .nil))))))))))=
  [2,3].flatMap λc=>[2,3].flatMap λd=>[2,3].flatMap λe=>[2,3].map λg=>xe zj (one (.lst (qj c [] n (.cons (mn 44) (qj d [] n1 (.cons (mn 44) (qj e [] n2 (.cons (mn 44) (qj g [] n3 .nil))))))))) (.lst (.cons (.lst (qj c [] n .nil)) (.cons (.lst (qj d [] n1 .nil)) (.cons (.lst (qj e [] n2 .nil)) (one (.lst (qj g [] n3 .nil))))))):=by kernel_rfl
theorem Ou:sE zj (one (.lst .nil)) (.lst .nil):=by unfold sE;kernel_rfl
section
noncomputable def kd:cX->Nat|.nm _ _=>0|.me _=>1|.nu b _=>bif b then 2 else 3|.ad _=>4|.ix _ d=>bif gI d 0 then 6 else 5
noncomputable def ks:cX->S|.nm _ s=>s|.me s=>s|.ix s _=>s|_=>[]
noncomputable def kn:cX->Int|.nu _ i=>i|.ad i=>i|.ix _ d=>fR d|_=>0
theorem jt(p:cX)(t:V):p.tk t=qj (kd p) (ks p) (kn p) t:=by
 induction p with
 |nu b i=>induction b<;>rfl
 |ix s d=>simp only[cX.tk,kd];cases gI d 0<;>rfl
 |_=>rfl
theorem kd_in(p:cX):kd p∈c7:=by
 induction p with
 |nu b i=>cases b;exact(by decide:3∈c7);exact(by decide:2∈c7)
 |ix s d=>simp only[kd];cases gI d 0<;>exact(by decide)
 |nm k s=>exact(by decide:0∈c7)
 |me s=>exact(by decide:1∈c7)
 |ad i=>exact(by decide:4∈c7)
theorem jH{p:cX}(h:wy p=true):kd p∈ [2,3] /\ks p=[] :=by
 induction p with
 |nu b i=>cases b;exact⟨(by decide:3∈ [2,3]),rfl⟩;exact⟨(by decide:2∈ [2,3]),rfl⟩
 |_=>exact absurd h nT
theorem Ov{p:cX}(h:U' p=true):kd p∈ [5,6] :=by
 induction p with
 |ix s d=>simp only[kd];cases gI d 0<;>exact(by decide)
 |_=>exact absurd h nT
theorem Ow{p:cX}(h:U_ p=true):kd p=0/\kn p=0:=by
 induction p with
 |nm k s=>exact⟨rfl,rfl⟩
 |_=>exact absurd h nT
theorem wG{H β:Type}{f g:H->List β}:∀{l:List H},(∀x∈l,(f x).length=(g x).length)->l.flatMap f=l.flatMap g->∀x∈l,f x=g x:=by
 intro zr
 induction zr with
 |nil=>
  exact @λ_ _ x hx=>nomatch hx
 |cons y l bN=>
  exact @λhl h x hx=>by
   replace h:=lI▸(lI▸h);refine aD (List.append_inj h (hl y aW)) λh1 h2=>?_
   rcases aR.mp hx with rfl|hx
   ·exact h1
   ·exact bN (λz hz=>hl z (aP _ hz)) h2 x hx
theorem y4{f:Fn}{l w:V}(h:gP f l=xe f l w):sE f l w:=h
theorem ab9(p:cX):sE zj (one (.lst (p.tk .nil))) (.lst (one (.lst (p.tk .nil)))):=by
 rw[jt];exact y4 (iA.mp (Om _ _) _ (kd_in p))
theorem len_eq{H:Type}{l:List Nat}{f g:Nat->Nat->H}(l':List Nat):∀x∈l,(l'.map (f x)).length=(l'.map (g x)).length:=λY Y=>(bx _).trans (bx _).symm
theorem aca(p q:cX):sE zj (one (.lst (p.tk (.cons (mn 44) (q.tk .nil))))) (.lst (.cons (.lst (p.tk .nil)) (one (.lst (q.tk .nil))))):=by
 rw[jt p,jt p,jt q];exact y4 (iA.mp (wG (len_eq c7) (Oo _ _ _ _) _ (kd_in p)) _ (kd_in q))
theorem acb{a b c:cX}(ha:wy a=true)(hb:U' b=true)(hc:U_ c=true):sE zj (one (.lst (a.tk (.cons (mn 44) (b.tk (.cons (mn 44) (c.tk .nil))))))) (.lst (.cons (.lst (a.tk .nil)) (.cons (.lst (b.tk .nil)) (one (.lst (c.tk .nil)))))):=by
 have p:=jH ha;have q:=Ow hc;rw[jt a,jt a,jt b,jt b,jt c,p.2,q.1,q.2];exact y4 (iA.mp (wG (len_eq _) (Oq _ _ _ _) _ p.1) _ (Ov hb))
theorem acd{a b c d:cX}(ha:wy a=true)(hb:wy b=true)(hc:wy c=true)(hd:wy d=true):sE zj (one (.lst (a.tk (.cons (mn 44) (b.tk (.cons (mn 44) (c.tk (.cons (mn 44) (d.tk .nil))))))))) (.lst (.cons (.lst (a.tk .nil)) (.cons (.lst (b.tk .nil)) (.cons (.lst (c.tk .nil)) (one (.lst (d.tk .nil))))))):=by
 rw[jt a,jt a,jt b,jt b,jt c,jt c,jt d,(jH ha).2,(jH hb).2,(jH hc).2,(jH hd).2];exact y4 (iA.mp (wG (len_eq _) (wG (λx Y=>by simp) (wG (λx Y=>by simp) (Ot _ _ _ _) _ (jH ha).1) _ (jH hb).1) _ (jH hc).1) _ (jH hd).1)
theorem Bu{ops:List cX}(h:ZT ops=true):sE zj (one (.lst (eP ops))) (.lst (GD ops)):=by
 rcases ops with _|⟨a,_|⟨b,_|⟨c,_|⟨d,_|⟨_,_⟩⟩⟩⟩⟩
 ·exact Ou
 ·exact ab9 a
 ·exact aca a b
 ·have p:=dK.mp h;have q:=dK.mp p.2;exact acb p.1 q.1 q.2
 ·have p:=dK.mp h;have q:=dK.mp p.2;have r:=dK.mp q.2;exact acd p.1 q.1 r.1 r.2
 ·exact absurd h nT
end
set_option backward.match.sparseCases true
noncomputable def aU:List V->V| [] =>.nil|a::l=>.cons a (aU l)
section
variable{K:Kc}{I σ₁ σ₂:List O}{v w acc y z:V}{x it:C}{t:Tg}{E ε₁:Env}{n j:Nat}{H:Type}
theorem dD:∀l:List V,aO (aU l)=l.length| [] =>rfl|_::l=>congrArg aZ (dD l)
theorem mV:∀(l:List V)(j:Nat),eW (aU l) j=match l[j]? with|some a=>.ok a|none=>.no
 | [],j=>by induction j using dM<;>rfl
 |o::l,0=>rfl
 |o::l,j+1=>by
  show eW (aU l) j=_;exact ah (mV l j) (ah (uc) rfl)
theorem rR:∀(l m:List V),a_ (aU l) (aU m)=aU (l++m)| [],m=>rfl|a::l,m=>congrArg (V.cons a) (rR l m)
theorem tL:∀l:List V,pO (aU l)=true| [] =>rfl|_::l=>tL l
theorem E':∀(l:List V)(m:V),fk (aU l) m=a_ (aU l.reverse) m:=by
 intro zr
 induction zr with
 |nil=>
  exact @λm=>rfl
 |cons a l bN=>
  exact @λm=>by
   show fk (aU l) (.cons a m)=_
   have e:∀(p:List V)(m:V),a_ (aU (p++[a])) m=a_ (aU p) (.cons a m):=λp m=>by
    induction p with
    |nil=>rfl
    |cons b p ih=>exact congrArg (V.cons b) ih
   rw[bN,iz,e]
noncomputable def LS(v:V)(I:List O)(l:List V):Prop:=∀h o j,drawn v j ⟨I,h,o⟩=xj (match l[j]? with|some a=>.ok a|none=>.no)
theorem tM{l:List V}:LS (.lst (aU l)) I l:=λh o j=>by
 show xj (eW (aU l) j)=_;rw[mV]
theorem y5{l:List V}{i:Nat}(hi:e_ I i=.ok (.list (aU l))):LS (.loc i) I l:=λh o j=>by
 show @OO.rec (λY=>RD) RD.no (λo=>@O.rec (λY=>RD) (λl=>xj (eW l j)) (λl=>xj (eW l j)) (λY Y=>RD.no) (λl=>@Nat.rec (λY=>RD) (drD l) (λY Y=>RD.no) j) RD.no o) (e_ I i)=_;refine ah hi ?_;show xj (eW (aU l) j)=_;rw[mV]
theorem comp_map{l:List H}(g f:H->V)(hd:LS v I (l.map g))(hl:l.length≤500)(hx:∀a∈l,∃ε₁,(∀h o,t (g a) E ⟨I,h,o⟩=.ok ε₁)/\ae (x K ε₁) I (f a) I):
  ae (dT x t v K E turns 0 .nil) I (.loc (kB I)) (mE I (.list (aU (l.map f)))):=by
 have gen:∀(n j:Nat)(p:List H),p=l.take j->j≤l.length->l.length - j<n->ae (dT x t v K E n j (aU (p.map f).reverse)) I (.loc (kB I)) (mE I (.list (aU (l.map f)))):=by
  intro n
  induction n with
  |zero=>intro j p _ _ h;exact absurd h (eA _)
  |succ n ih=>
   intro j p hp hj hn;have key:∀h o,dT x t v K E (n+1) j (aU (p.map f).reverse) ⟨I,h,o⟩= @RD.rec (λY=>RE) RE.no (s_ (fk (aU (p.map f).reverse) V.nil) ⟨I,h,o⟩) (λy=>kI x K (t y E ⟨I,h,o⟩) ⟨I,h,o⟩ (λz B=>dT x t v K E n (aZ j) (.cons z (aU (p.map f).reverse)) B)) (drawn v j ⟨I,h,o⟩):=λh o=>rfl;refine kY (l[j]?) (λhg=>?_) (λa hg=>?_)
   ·have hle:l.length≤j:=iP.mp hg;have hpl:p=l:=by exact ah hp (ah (nZ hle) rfl)
    refine ae.LR (g:=λB=>jg (.list (aU (l.map f))) B) (bA [] [] trivial (λY Y=>rfl)) λh o=>?_;rw[key,hd,eI,hg];show s_ (fk (aU (p.map f).reverse) V.nil) ⟨I,h,o⟩=_;rw[E',qt,hpl];have e:a_ (aU (l.map f)) .nil=aU (l.map f):=mj (tL _);refine ah e ?_;show @Bool.rec (λY=>RE) RE.no (jg (.list (aU (l.map f))) ⟨I,h,o⟩) (bF (aU (l.map f)))=_;exact ah (cU (by rw[dD,bx];lia)) rfl
   ·have hW:j<l.length:=(cA.mp hg).1;refine aL (hx a (jv hg)) λε₁ ht hr=>?_;have Bv:=ih (j+1) (p++[a]) (by refine ah hp (ah n4 (ah hg ?_));rfl) hW (by omega);have e:aU ((p++[a]).map f).reverse=.cons (f a) (aU (p.map f).reverse):=by refine ah gq (ah List.map_singleton (ah qr ?_));rfl
    rw[e] at Bv;refine ae.LR (ae.and (k:=λz B=>dT x t v K E n (aZ j) (.cons z (aU (p.map f).reverse)) B) hr Bv) λh o=>?_;rw[key,hd,eI,hg];show kI x K (t (g a) E ⟨I,h,o⟩) ⟨I,h,o⟩ _=_;rw[ht];rfl
 exact gen turns 0 [] rfl (fN _) (show l.length - 0<600 by exact dR (by assumption) (by decide))
theorem E_{bd:CS}{l:List H}(g:H->V)(st:Nat->Env)(sg:Nat->List O)(hd:∀j,j≤l.length->LS v (sg j) (l.map g))(hl:l.length≤500)
  (hb:∀j a,l[j]? =some a->∃ε₁,(∀h o,t (g a) (st j) ⟨sg j,h,o⟩=.ok ε₁)/\(au (bd K ε₁) (sg j) (.dw (st (j+1))) (sg (j+1))∨au (bd K ε₁) (sg j) (.cont (st (j+1))) (sg (j+1)))):
  au (forL t v bd K turns 0 (st 0)) (sg 0) (.dw (st l.length)) (sg l.length):=by
 have gen:∀(n j:Nat),j≤l.length->l.length - j<n->au (forL t v bd K n j (st j)) (sg j) (.dw (st l.length)) (sg l.length):=by
  intro n
  induction n with
  |zero=>intro j _ h;exact absurd h (eA _)
  |succ n ih=>
   intro j hj hn;have key:∀h o,forL t v bd K (n+1) j (st j) ⟨sg j,h,o⟩= @RD.rec (λY=>RS) RS.no (RS.dw (st j) ⟨sg j,h,o⟩) (λy=>q7 bd K (t y (st j) ⟨sg j,h,o⟩) ⟨sg j,h,o⟩ (forL t v bd K n (aZ j))) (drawn v j ⟨sg j,h,o⟩):=λh o=>rfl;refine kY (l[j]?) (λhg=>?_) (λa hg=>?_)
   ·have hle:l.length=j:=qF (iP.mp hg) hj;refine ah hle ?_;refine(bA [] [] trivial (λbC o'=>?_));rw[key,hd j hj,eI,hg];rfl
   ·have hW:j<l.length:=(cA.mp hg).1;refine aL (hb j a hg) λε₁ ht hr=>?_;refine a6 (au.loop hr (k:=forL t v bd K n (aZ j)) (ih (j+1) hW (by omega))) λh1 o1 p1 e1=>?_;refine(bA h1 o1 p1 (λbC o'=>?_));rw[key,hd j hj,eI,hg];show q7 bd K (t (g a) (st j) ⟨sg j,_,o'⟩) _ _=_;rw[ht];exact e1 bC o'
 exact gen turns 0 (fN _) (show l.length - 0<600 by exact dR (by assumption) (by decide))
end
noncomputable section
def R91:V->V->Prop:=fD (aq zj KP)
def R95:V->V->Prop:=fD (aq yz KP)
def T96:Tr (Kc->V->Mm->RE):=gn (gn gQ 91 (gm R91)) 95 (gm R95)
def Z5:Kc:=dW T96 KP 2
def R96:V->V->Prop:=yy (aq f96 Z5)
end
section
variable{p:cX}{ops:List cX}
theorem wH:∀l:List cX,gG l=aU (l.map cX.tree)| [] =>rfl|o::l=>congrArg (V.cons o.tree) (wH l)
theorem De:∀l:List cX,GD l=aU (l.map λo=>.lst (o.tk .nil))| [] =>rfl|o::l=>congrArg (V.cons _) (De l)
theorem Fb:∀l:List cX,eT l=aU (l.map cX.val)| [] =>rfl|o::l=>congrArg (V.cons o.val) (Fb l)
theorem rS(B:Mm)(n:Nat){t:V}(h:bZ (cZ (n+2) B) t=.ok t)(p:cX):bZ (cZ (n+2) B) (p.tk t)=.ok (p.tk t):=by
 have one:∀{k:S}{v r:V},cZ (n+1) B v=.ok v->bZ (cZ (n+2) B) r=.ok r->bZ (cZ (n+2) B) (.cons (dt k v) r)=.ok (.cons (dt k v) r):=λ{k v r} hv hr=>by
  have h1:cZ (n+2) B (dt k v)=.ok (dt k v):=by
   show gO (λY=>dN (OV.ok (.str k)) (dN (cZ (n+1) B v) (OV.ok .nil) V.cons) V.cons) V.tup (.cons (.str k) (.cons v .nil))=_;refine ah hv ?_;rfl
  show dN (cZ (n+2) B (dt k v)) (bZ (cZ (n+2) B) r) V.cons=_;refine ah h1 (ah hr ?_);rfl
 induction p with
 |nm k s=>exact one rfl h
 |me s=>exact one rfl (one rfl (one rfl h))
 |nu b i=>induction b<;>exact one rfl h
 |ad i=>exact one rfl (one rfl (one rfl h))
 |ix s d=>exact one rfl (one rfl (one rfl (one rfl (one rfl h))))
theorem GG(B:Mm)(n:Nat):∀l:List cX,bZ (cZ (n+2) B) (jm l)=.ok (jm l):=by
 intro zr
 induction zr with
 |nil=>
  exact rfl
 |cons o l bN=>
  exact by
   show dN (OV.ok (mn 44)) (bZ (cZ (n+2) B) (o.tk (jm l))) V.cons=_;refine ah (rS B n (bN) o) ?_;rfl
theorem gH(B:Mm)(n:Nat):∀l:List cX,bZ (cZ (n+2) B) (eP l)=.ok (eP l):=by
 intro zr
 induction zr with
 |nil=>
  exact rfl
 |cons o l bN=>
  exact rS B n (GG B n l) o
theorem mu{l:V}(h:bZ (cZ 7 ⟨[],[],[]⟩) l=.ok l):km (.cons (.lst l) .nil):=by
 show dN (cZ 8 ⟨[],[],[]⟩ (.lst l)) (OV.ok .nil) V.cons=_;refine ah (mr h) ?_;rfl
theorem GH(h:wx p=true):sE yz (.cons (.lst (p.tk .nil)) .nil) p.tree:=by
 induction p with
 |nm k s=>
  have h:=pw (show ku s (nkL k)=true from h)
  induction k with
  |r=>exact iA.mp Oi s h
  |p=>exact iA.mp Oj s h
  |f=>exact iA.mp Ol s h
 |me s=>exact iA.mp Vc s (pw (show ku s Bk=true from h))
 |nu b i=>exact ab7 b i
 |ad i=>exact ab8 i
 |ix s d=>
  have h:=pw (show ku s E6=true from h)
  have key:∀c,c=43∨c=45->sE yz (.cons (.lst (GF s c (fR d))) .nil) (Bt s c (fR d)):=by
   intro c hc;simp only[E6,aR,fw,or_false] at h
   rcases h with rfl|rfl<;>rcases hc with rfl|rfl
   ·exact ab5 _
   ·exact Z2 _
   ·exact ab6 _
   ·exact Z3 _
  show sE yz (.cons (.lst (GF s (bif gI d 0 then 45 else 43) (fR d))) .nil) (Bt s (bif gI d 0 then 45 else 43) (fR d));exact key _ (by cases gI d 0;exact .inl rfl;exact .inr rfl)
theorem Vd(h:wx p=true):R95 (.cons (.lst (p.tk .nil)) .nil) p.tree:=Kt (GH h) (mu (rS _ 5 rfl p))
theorem Ve(h:ZT ops=true):R91 (.cons (.lst (eP ops)) .nil) (.lst (GD ops)):=Kt (Bu h) (mu (gH _ 5 ops))
theorem GI(B:Mm):∀l:List cX,bZ (JG 7 B) (gG l)=.ok (gG l):=by
 intro zr
 induction zr with
 |nil=>
  exact rfl
 |cons o l bN=>
  exact by
   have h1:JG 7 B o.tree=.ok o.tree:=by
    induction o with
    |nu b i=>induction b<;>rfl
    |_=>rfl
   show dN (JG 7 B o.tree) (bZ (JG 7 B) (gG l)) V.cons=_;refine ah h1 (ah (bN) ?_);rfl
theorem Vf(h:ZT ops=true)(hk:ops.all wx=true)(hl:ops.length≤4):R96 (.cons (.lst (eP ops)) .nil) (.lst (gG ops)):=by
 refine(ji _ (.loc 0) (.lst (gG ops)) [.list (gG ops)] gF.refl (mu (gH _ 5 ops)) (ae.z ?_) ?_ jc.refl)
 ·have Z6:ae (Z5 91 (.cons (.lst (eP ops)) .nil)) [] (.lst (GD ops)) [] :=by
   show ae (dW T96 KP (1+1) 91 _) [] _ [];refine ah (lh (g:=gm R91) rfl) ?_;exact eO (Ve h)
  have h95:∀p∈ops,ae (Z5 95 (.cons (.lst (p.tk .nil)) .nil)) [] p.tree [] :=λp hp=>by
   show ae (dW T96 KP (1+1) 95 _) [] _ [];refine ah (lh (g:=gm R95) rfl) ?_;exact eO (Vd (c9.mp hk p hp))
  refine ae.call (ns:=[rU]) rfl (ef (oU (eG (ai (aI rfl) aF) Z6) ?_));rw[De,wH];exact comp_map (I:=[]) (λo:cX=>.lst (o.tk .nil)) cX.tree tM (bb (by assumption) (bW _ _)) λp hp=>(aQ _ (λY Y=>rfl) (eG (ai (aI rfl) aF) (h95 p hp)))
 ·show gO (bZ (JG 7 ⟨[.list (gG ops)],[],[]⟩)) V.lst (gG ops)=_;show @OV.rec (λY=>OV) OV.no (λl=>OV.ok (.lst l)) (bZ (JG 7 ⟨[.list (gG ops)],[],[]⟩) (gG ops))=_;rw[GI]
end
section
variable{K:Kc}{E ε₁:Env}{I σ₁ σ₂ σ₃:List O}{v w l u x:V}{a b o:C}{r:CS}{out:Out}{p c m i n:Nat}{ob:O}
theorem bM:∀{I:List O}{i:Nat}{ob:O},I[i]? =some ob->e_ I i=.ok ob
 | [],i,ob,h=>nomatch h
 |x::I,0,ob,h=>by refine Af h ?_;rfl
 |x::I,i+1,ob,h=>bM (I:=I) (by simpa using h)
theorem mW:∀{I:List O}{i:Nat}{ob:O},i<I.length->lT I i ob=.ok (I.set i ob)
 | [],i,ob,h=>absurd h (eA _)
 |x::I,0,ob,h=>rfl
 |x::I,i+1,ob,h=>by
  show B0 x (lT I i ob)=_;refine ah (mW (I:=I) (jy h)) ?_;rfl
theorem ew:∀I:List O,kB I=I.length| [] =>rfl|_::I=>congrArg aZ (ew I)
theorem bO{I:List O}(h:I[p]? =some ob):p<I.length:=(cA.mp h).1
theorem Bw(h:I[p]? =some (.inst c l))(g:gc l m=.ok v):ae (xk m (.loc p)) I v I:=ae.LR ae.ok λh' o'=>by
 show @OA.rec (λY=>RE) RE.no (λc a=>ze (gc a m) ⟨I,h',o'⟩) (uY (e_ I p))=_;refine ah (bM h) ?_;show ze (gc l m) _=_;refine ah g ?_;rfl
theorem bg(h:ae (o K E) I (.loc p) σ₁)(hp:σ₁[p]? =some (.inst c l))(g:gc l m=.ok v):ae (dZ o m K E) I v σ₁:=JZ h (Bw hp g)
theorem px(h:ae (o K E) I (.xf c l) σ₁)(g:gc l m=.ok v):ae (dZ o m K E) I v σ₁:=JZ h (ae.to ae.ok λB=>by
 show ze (gc l m) B=_;refine ah g ?_;rfl)
theorem Bx(hp:I[p]? =some (.inst c l))(hl:bB (Ab l) 900=true):∀h o,FP (.loc p) m v ⟨I,h,o⟩=.ok ⟨I.set p (.inst c (hP l m v)),h,o⟩:=λh o=>by
 show HJ p (uY (e_ I p)) m v ⟨I,h,o⟩=_;refine ah (bM hp) ?_;show @Bool.rec (λY=>RM) RM.no (z_ (lT I p (.inst c (hP l m v))) h o) (bB (Ab l) 900)=_;refine ah hl (ah (mW (bO hp)) ?_);rfl
theorem dH(h:ae (a K E) I v σ₁)(g:ae (o K E) σ₁ (.loc p) σ₂)(hp:σ₂[p]? =some (.inst c l))(hl:bB (Ab l) 900=true)(k:au (r K E) (σ₂.set p (.inst c (hP l m v))) out σ₃):au (bI (Ac o m a) r K E) I out σ₃:=by
 refine au.seq (E:=E) (σ₁:=σ₂.set p (.inst c (hP l m v))) (au.and h (au.and g (bA [] [] trivial (λbC o'=>?_)))) k;show pW E (FP (.loc p) m v ⟨σ₂,_,_⟩)=_;rw[Bx hp hl];rfl
theorem y6{op:hV}(g:ae (o K E) I (.loc p) σ₁)(hp:σ₁[p]? =some (.inst c l))(hu:gc l m=.ok u)(h:ae (a K E) σ₁ w σ₁)(hv:∀B,B7 op u w B=RE.ok v B)(hl:bB (Ab l) 900=true)(k:au (r K E) (σ₁.set p (.inst c (hP l m v))) out σ₃):au (bI (vc o m op a) r K E) I out σ₃:=by
 refine au.seq (E:=E) (σ₁:=σ₁.set p (.inst c (hP l m v))) (au.and g (au.and (Bw hp hu) (au.and h (au.and (a:=B7 op u w) (ae.to ae.ok hv) (bA [] [] trivial (λbC o'=>?_)))))) k;show pW E (FP (.loc p) m v ⟨σ₁,_,_⟩)=_;rw[Bx hp hl];rfl
theorem iq{t:List (Nat×Nat)}{f:Nat}(h:ae (o K E) I (.loc p) σ₁)(hp:σ₁[p]? =some (.inst c l))(hm:gc l m=.no)(g:ae (a K E) σ₁ w σ₂)(ht:∀K l B,pick t c K l B=K f l B)(k:ae (K f (.cons (.loc p) w)) σ₂ v σ₃):ae (pK m t o a K E) I v σ₃:=
 ae.and (k:=λo B=>HH m t o a K E B) h (ae.LR (ae.and (k:=DI t c (.loc p) K) g (ae.to k λB=>ht K _ B)) λh' o'=>by
  show @OA.rec (λY=>RE) RE.no (λc a'=>DH (gc a' m) (cw (a K E ⟨σ₁,h',o'⟩) (DI t c (.loc p) K))) (uY (e_ σ₁ p))=_;refine ah (bM hp) ?_;show DH (gc l m) _=_;refine ah hm ?_;rfl)
theorem xE{f:Nat}(h:ae (a K E) I l σ₁)(k:ae (K f (.cons (.loc σ₁.length) l)) (σ₁++[.inst c .nil]) .none σ₂):ae (HF c f a K E) I (.loc σ₁.length) σ₂:=
 ae.and h (ae.and (a:=jg (.inst c .nil)) (v:=.loc σ₁.length) (σ₁:=σ₁++[.inst c .nil]) (bA [] [] trivial (λbC o'=>by
  show RE.ok (.loc (kB σ₁)) ⟨mE σ₁ (.inst c .nil),bC,o'⟩=_;rw[ew,fg];rfl)) (by
  refine a6 k λh1 o1 p1 e1=>?_;clear k;refine(bA h1 o1 p1 (λbC o'=>?_));show HE (.loc σ₁.length) (K f (.cons (.loc σ₁.length) l) ⟨_,h1++bC,o'⟩)=_;rw[e1];rfl))
theorem lu:ae (B6 ck K E) I (.loc I.length) (I++[.list .nil]):=(bA [] [] trivial (λbC o'=>by
 show RE.ok (.loc (kB I)) ⟨mE I (.list .nil),bC,o'⟩=_;rw[ew,fg];rfl))
theorem Ku(h:ae (a K E) I l σ₁)(hs:bF l=true):ae (B6 a K E) I (.loc σ₁.length) (σ₁++[.list l]):=ae.and h (bA [] [] trivial (λbC o'=>by
 show @Bool.rec (λY=>RE) RE.no (jg (.list l) _) (bF l)=_;refine ah hs ?_;show RE.ok (.loc (kB σ₁)) ⟨mE σ₁ (.list l),bC,o'⟩=_;rw[ew,fg];rfl))
theorem sF:ae (FO B5 K E) I (.loc I.length) (I++[.dict .nil]):=(bA [] [] trivial (λbC o'=>by
 show RE.ok (.loc (kB I)) ⟨mE I (.dict .nil),bC,o'⟩=_;rw[ew,fg];rfl))
theorem Z7{xs y:V}(h1:I[i]? =some (.list xs))(h3:bF (a_ xs (.cons y .nil))=true):ae (lU .append (.loc i) (.cons y .nil)) I .none (I.set i (.list (a_ xs (.cons y .nil)))):=
 Bi (bM h1) (mW (bO h1)) h3
theorem Vg{xs:V}(h1:I[i]? =some (.list xs)):∀h o,Q7 .append (.loc i) ⟨I,h,o⟩=true:=λh o=>by
 show DJ (e_ I i)=true;refine ah (bM h1) ?_;rfl
theorem mv{xs y:V}(ho:ae (o K E) I (.loc i) σ₁)(h0:σ₁[i]? =some (.list xs))(ha:ae (a K E) σ₁ y σ₂)(h1:σ₂[i]? =some (.list xs))(h3:bF (a_ xs (.cons y .nil))=true):ae (FN .append o (aH a ck) K E) I .none (σ₂.set i (.list (a_ xs (.cons y .nil)))):=
 J6 ho (Vg h0) (ai ha aF) (Z7 h1 h3)
theorem pA(h:bF l=true):ae (wY 0 (.cons (.lst l) .nil)) I (.int (ab (aO l))) I:=ae.to ae.ok λB=>by
 show @Bool.rec (λY=>RE) RE.no (RE.ok (.int (ab (aO l))) B) (bF l)=_;exact ah h rfl
theorem Fc(h1:I[i]? =some (.list l))(h:bF l=true):ae (wY 0 (.cons (.loc i) .nil)) I (.int (ab (aO l))) I:=ae.LR ae.ok λh' o'=>by
 show Hw (e_ I i) _=_;refine ah (bM h1) ?_;show @Bool.rec (λY=>RE) RE.no (RE.ok (.int (ab (aO l))) _) (bF l)=_;exact ah h rfl
theorem wI{op:xg}{i j:Int}{q:Bool}(h:∀B,fy op (.int i) (.int j) B=RB.ok q B):br (fy op (.int i) (.int j)) I q I:=by
 refine(bA [] [] trivial (λbC o'=>?_));rw[h];rfl
theorem bq{J:List O}(h:I[i]? =some ob):(I++J)[i]? =some ob:=by
 refine ah (lD (bO h)) ?_;exact h
theorem kQ{J:List O}(h:i<I.length):(I++J).set i ob=I.set i ob++J:=by
 exact ah (List.set_append_left _ _ h) rfl
theorem bR{J:List O}:(I++ob::J)[I.length]? =some ob:=by simp
theorem dX{Vh:O}(h:I[i]? =some ob)(n:i≠p):(I.set p Vh)[i]? =some ob:=by refine ah (ue (jC n)) ?_;exact h
theorem get_eq{Vh:O}(h:p<I.length):(I.set p Vh)[p]? =some Vh:=ah (List.getElem?_set_self h) rfl
theorem wJ{t:Tg}{it:C}{bd:CS}(h:ae (it K E) I v σ₁)(g:au (forL t v bd K turns 0 E) σ₁ (.dw ε₁) σ₂)(k:au (r K ε₁) σ₂ out σ₃):au (bI (xS t it bd) r K E) I out σ₃:=au.seq (au.and h g) k
theorem Kv{bd:CS}(h:au (bd K E) I (.dw ε₁) σ₁)(k:au (r K ε₁) σ₁ out σ₂):au (bI (B_ bd) r K E) I out σ₂:=au.seq h k
theorem GJ{bd:CS}(h:au (bd K E) I (.ret v) σ₁):au (bI (B_ bd) r K E) I (.ret v) σ₁:=au.iI h
theorem rT{c:C}{s e:CS}(h:ae (c K E) I (.bool true) σ₁)(g:au (s K E) σ₁ (.dw ε₁) σ₂)(k:au (r K ε₁) σ₂ out σ₃):au (bI (B8 c s e) r K E) I out σ₃:=NW (q:=true) h g k
theorem kR{c:C}{s e:CS}(h:ae (c K E) I (.bool false) σ₁)(g:au (e K E) σ₁ (.dw ε₁) σ₂)(k:au (r K ε₁) σ₂ out σ₃):au (bI (B8 c s e) r K E) I out σ₃:=NW (q:=false) h g k
end
section
variable{K:Kc}{I σ₁ σ₂:List O}{v w num tx lb wd tk tl t2:V}{s r:S}{n:Nat}
theorem ae.st{f:Mm->RE}(h:ae f I v σ₁)(e:σ₁=σ₂):ae f I v σ₂:=e▸h
theorem au.st{f:Mm->RS}{o:Out}(h:au f I o σ₁)(e:σ₁=σ₂):au f I o σ₂:=e▸h
noncomputable abbrev hI(num tx lb wd tk:V):V:=.fld uU num (.fld bY tx (.fld 477247246341 lb (.fld d_ wd (.fld rU tk .nil))))
theorem cH{ob Vh:O}{J:List O}:(I++ob::J).set I.length Vh=I++Vh::J:=by
 rw[List.set_append_right _ _ (bT _),Nat.sub_self];rfl
theorem iK{J J':List O}:(I++J)++J'=I++(J++J'):=bH _ _ _
theorem Kw{ob:O}:(I++[ob]).length=I.length+1:=by simp
theorem wK:ae (aq Zx K (.cons (.loc I.length) (.cons num (.cons tx .nil)))) (I++[.inst 3 .nil]) .none (I++[.inst 3 (hI num tx .none .none (.loc (I.length+1))),.list .nil]):=by
 refine ae.eH (ns:=[aT,uU,bY]) (ε₁:=.cons aT (.loc I.length) (.cons uU num (.cons bY tx .nil))) rfl ?_;refine dH (aI rfl) (aI rfl) bR rfl ?_;refine ah cH ?_;refine dH (aI rfl) (aI rfl) bR rfl ?_;refine ah cH ?_;refine dH bV (aI rfl) bR rfl ?_;refine ah cH ?_;refine dH bV (aI rfl) bR rfl ?_;refine ah cH ?_;refine dH lu (aI rfl) (bq bR) rfl ?_;refine ah iK (ah zE (ah cH (ah Kw ?_)));exact dx
theorem Fd{k:S}{v y:V}(hk:k=eN∨k=pF):ae (aq Zw K (.cons (dt k v) (.cons y .nil))) I (.bool false) I:=by
 rcases hk with rfl|rfl<;>exact⟨[],[],trivial,λbC o'=>by kernel_rfl⟩
theorem wL:ae (aq Zw K (.cons (mn 40) (.cons (.str [58]) .nil))) I (.bool false) I:=⟨[],[],trivial,λbC o'=>by kernel_rfl⟩
theorem GK(Vi:tl≠ .nil->∃t2 xF,tl=.cons t2 xF/\ae (K 41 (.cons t2 (.cons (.str [58]) .nil))) I (.bool false) I)(hs:aO (.cons (dt eN w) tl)≤10000):ae (aq Zy K (.cons (.ak (32::r)) (.cons (.lst (.cons (dt eN w) tl)) .nil))) I (.bool false) I:=by
 have tw:=cU hs;refine ae.call (ns:=[bY,rU]) rfl ?_;refine bU (σ₁:=I) (oR (bu (fj (ai (aI rfl) aF) (pA tw)) bV (wI (q:=false) λB=>rfl)) ?_) (ef (oR (σ₁:=I) ?_ ?_))
 ·exact⟨[],[],trivial,λbC o'=>by kernel_rfl⟩
 ·exact⟨hB [false,true],[sEq [32] [32] =true,sEq [] [32] =false,cY [32] =true],(ib rfl rfl rfl trivial),λbC o'=>by kernel_rfl⟩
 ·by_cases hq:tl=.nil
  ·subst hq;exact iJ (bu (fj (ai (aI rfl) aF) (pA tw)) bV (wI (q:=false) λB=>rfl))
  ·refine a6 (Vi hq) λt2 xF gY h=>?_;subst gY;have ix:ae (qX (.lst (.cons (dt eN w) (.cons t2 xF))) (.int (.ofNat 1))) I t2 I:=⟨[],[],trivial,λbC o'=>by kernel_rfl⟩;exact g_ (bu (fj (ai (aI rfl) aF) (pA tw)) bV (wI (q:=true) λB=>rfl)) (eG (ai (fi (aI rfl) bV ix) (ai bV aF)) h)
theorem ace(hs:aO (.cons w tl)≤10000):ae (LK (.at (.ofNat 1)) .no (.lst (.cons w tl))) I (.loc I.length) (I++[.list tl]):=(bA [] [] trivial (λbC o'=>by
 show @Bool.rec (λY=>RE) RE.no (iV tl _) (bF (.cons w tl))=_;refine ah (cU hs) ?_;show @Bool.rec (λY=>RE) RE.no (jg (.list tl) _) (bF tl)=_;refine ah (cU (by have:aO tl+1≤10000:=hs;exact jX (by assumption))) ?_;show RE.ok (.loc (kB I)) ⟨mE I (.list tl),bC,o'⟩=_;rw[ew,fg];rfl))
theorem Z8{a lo:C}{E:Env}{σ₃:List O}{x:V}(ha:ae (a K E) I v σ₁)(hl:ae (lo K E) σ₁ (.int (.ofNat 1)) σ₂)(hk:ae (LK (.at (.ofNat 1)) .no v) σ₂ x σ₃):ae (Ma a lo K E) I x σ₃:=ae.and ha (ae.and hl hk)
theorem By(hp:I[n]? =some (.inst 3 (hI num (.ak s) .none .none tk)))(Z9:ae (K 40 (.cons (.ak s) .nil)) I (.lst (.cons (dt eN w) tl)) I)(Z_:ae (K 57 (.cons (.ak s) (.cons (.lst (.cons (dt eN w) tl)) .nil))) I (.bool false) I)(hs:aO (.cons (dt eN w) tl)≤10000):
  ae (aq f58 K (.cons (.loc n) .nil)) I .none (I.set n (.inst 3 (hI num (.ak s) .none w (.loc I.length)))++[.list tl]):=by
 have tw:=cU hs;have hn:=bO hp;refine ae.eH (ns:=[aJ]) (ε₁:=.cons aJ (.loc n) (.cons rU (.lst (.cons (dt eN w) tl)) .nil)) rfl ?_;refine Kv (d5 (eG (ai (bg (aI rfl) hp rfl) aF) Z9) dx) ?_;refine bU (eG (ai (bg (aI rfl) hp rfl) (ai (aI rfl) aF)) Z_) ?_;refine bU (bu (fj (ai (aI rfl) aF) (pA tw)) bV (wI (q:=false) λB=>rfl)) ?_;refine bU (σ₁:=I) (iJ ⟨[],[],trivial,λbC o'=>by kernel_rfl⟩) ?_;refine dH (v:=w) (σ₁:=I) (σ₂:=I) ⟨[],[],trivial,λbC o'=>by kernel_rfl⟩ (aI rfl) hp rfl ?_;refine dH (Z8 (aI rfl) bV (ace hs)) (aI rfl) (bq (get_eq hn)) rfl ?_;have e:(I.set n (.inst 3 (hP (hI num (.ak s) .none .none tk) d_ w))).length=I.length:=by simp
 rw[kQ (by rw[e];exact hn),qD,e];exact dx
end
noncomputable section
def R40:V->V->Prop:=fD (aq V8 K2)
def R56:V->V->Prop:=fD (aq f56 K0)
def R50:V->V->Prop:=yy (aq f50 KP)
def aaa:V->V->Prop:=yy (aq zj KP)
def TS:Tr (Kc->V->Mm->RE):=gn (gn (gn (gn (gn (gn (gn (gn gQ 40 (gm R40)) 96 (rE R96)) 90 (rE V_)) 50 (rE R50)) 91 (rE aaa)) 108 (Qp (aq Gm))) 120 (Qp (aq NQ))) 56 (gm R56)
def KT(n:Nat):Kc:=dW TS Z5 n
end
section
variable{K:Kc}{I σ₁ σ₂ J:List O}{v w x l sy at' i_:V}{g:Kc->V->Mm->RE}{n t:Nat}{p:cX}{ops:List cX}
theorem kt{f k:Nat}(e:Tr.get (λY Y Y=>RE.no) TS f=g):KT (k+1) f=g (KT k):=lh e
theorem Df(h:ae (g K l) I v (σ₁++J))(hl:σ₁.length=I.length)(hw:Gl I.length 8 ⟨σ₁++J,[],[]⟩ v=.ok w)(hp:∀o∈σ₁,mI (λi=>i<I.length) o):ae (Qp g K l) I w σ₁:=by
 refine a6 h λh1 o1 p1 e1=>?_;clear h;have ht:(σ₁++J).take I.length=σ₁:=eV hl (ah List.take_left rfl);refine(bA (h1++[w]) (gcP I.length v w (σ₁++J)::o1) ⟨⟨hw,by refine ah ht ?_;exact hp⟩,p1⟩ (λbC o'=>?_));show gcE (kB I) (g K l ⟨I,(h1++[w])++bC,o'⟩)=_;rw[bH,e1,ew];show RE.ok w ⟨(σ₁++J).take I.length,bC,_⟩=_;refine ah ht ?_;rfl
theorem jJ{k:Nat}(h:I[t]? =some (.list x))(hx:bZ (cZ k ⟨I,[],[]⟩) x=.ok x):cZ (k+1) ⟨I,[],[]⟩ (.loc t)=.ok (.lst x):=by
 show q8 (cZ k ⟨I,[],[]⟩) (e_ I t)=_;refine ah (bM h) ?_;show @OV.rec (λY=>OV) OV.no (λl=>OV.ok (.lst l)) (bZ (cZ k ⟨I,[],[]⟩) x)=_;exact ah hx rfl
def Ff(i_:V):Prop:=i_=.none∨(∃i,i_=.int i)∨∃i,i_=.sym i
theorem mod_eq{n:Int}:bw n 65536=n % 65536:=nK n (by decide)
theorem Dg(hp:p.fit)(hu:Ff i_):ae (aq f99 (KT (n+6)) (.cons p.tree (.cons sy (.cons at' (.cons i_ .nil))))) I p.val I:=by
 induction p with
 |nm k s=>induction k<;>rcases hu with rfl|⟨i,rfl⟩|⟨i,rfl⟩<;>exact⟨[],[],trivial,λbC o'=>by kernel_rfl⟩
 |me s=>rcases hu with rfl|⟨i,rfl⟩|⟨i,rfl⟩<;>exact⟨[],[],trivial,λbC o'=>by kernel_rfl⟩
 |nu b i=>rcases hu with rfl|⟨i,rfl⟩|⟨i,rfl⟩<;>exact⟨[],[],trivial,λbC o'=>by kernel_rfl⟩
 |ad i=>rcases hu with rfl|⟨i,rfl⟩|⟨i,rfl⟩<;>exact⟨[],[],trivial,λbC o'=>by kernel_rfl⟩
 |ix s d=>
  refine c_ hp λY d0 d1=>?_;clear hp;show ae _ I (.tup (.cons (.str [120]) (.cons (.str s) (.cons (.sym d) .nil)))) I
  by_cases hd:d<0
  ·have hq:gI d 0=true:=by rw[bj];exact decide_eq_true hd
   have ha:fR d= -d:=by induction d with|ofNat n=>exact absurd hd (by have:=b9 n;show¬((n:Int)<0);exact gS.mpr (by assumption))|negSucc n=>rfl
   have e:bw (bP 0 (fR d)) 65536=d+65536:=by refine ah mod_eq (ah ha ?_);show(0 - -d)% 65536=_;omega
   have hg:LX (bw (bP 0 (fR d)) 65536) 32768=true:=by rw[e,tq];exact decide_eq_true (by lia)
   have ed:bP (bw (bP 0 (fR d)) 65536) 65536=d:=by refine ah e ?_;show d+65536 - 65536=d;exact Int.add_sub_cancel _ _
   refine ah (show V.sym d=.sym (bP (bw (bP 0 (fR d)) 65536) 65536) by rw[ed]) ?_;have tr:cX.tree (.ix s d)=Bt s 45 (fR d):=by simp only[cX.tree,hq];rfl
   refine ah tr ?_
   rcases hu with rfl|⟨i,rfl⟩|⟨i,rfl⟩<;>exact⟨hB [true],[LX (bw (bP 0 (fR d)) 65536) 32768=true,zb .sub (fR d)=true],(bL hg rfl trivial),λbC o'=>by kernel_rfl⟩
  ·have hq:gI d 0=false:=by rw[bj];exact decide_eq_false hd
   have ha:fR d=d:=by induction d with|ofNat n=>rfl|negSucc n=>exact absurd (iM n) hd
   have e:bw (aS 0 (fR d)) 65536=d:=by refine ah mod_eq (ah ha ?_);show(0+d)% 65536=_;omega
   have hg:LX (bw (aS 0 (fR d)) 65536) 32768=false:=by rw[e,tq];exact decide_eq_false (by lia)
   refine ah (show V.sym d=.sym (bw (aS 0 (fR d)) 65536) by rw[e]) ?_;have tr:cX.tree (.ix s d)=Bt s 43 (fR d):=by simp only[cX.tree,hq];rfl
   refine ah tr ?_
   rcases hu with rfl|⟨i,rfl⟩|⟨i,rfl⟩<;>exact⟨hB [false],[LX (bw (aS 0 (fR d)) 65536) 32768=false,zb .add (fR d)=true],(bL hg rfl trivial),λbC o'=>by kernel_rfl⟩
theorem Bz(hf:∀p∈ops,p.fit)(hl:ops.length≤4)(hu:Ff i_):ae (aq UP (KT (n+7)) (.cons (.lst (gG ops)) (.cons sy (.cons at' (.cons i_ .nil))))) I (.loc I.length) (I++[.list (eT ops)]):=by
 refine ae.call (ns:=[uT,ei,aB,gA]) rfl (ef (oU (aI rfl) ?_));rw[wH,Fb]
 have h:=comp_map (K:=KT (n+7)) (I:=I) (v:=.lst (aU (ops.map cX.tree))) (x:=rZ 99 (aH (cV 6765637) (aH (cV ei) (aH (cV aB) (aH (cV gA) ck))))) (t:=iX 6765637) (E:=.cons uT (.lst (aU (ops.map cX.tree))) (.cons ei sy (.cons aB at' (.cons gA i_ .nil)))) (l:=ops) cX.tree cX.val tM (bb (by assumption) (bW _ _)) λp hp=>(aQ _ (λY Y=>rfl) (eG (ai (aI rfl) (ai (aI rfl) (ai (aI rfl) (ai (aI rfl) aF)))) (by
  refine ah (kt (g:=aq f99) (k:=n+6) rfl) ?_;exact Dg (hf p hp) hu)))
 rw[ew,fg] at h;exact h
end
noncomputable section
structure pG where
 (sy si fx ch ma md:Nat) (last:Bool) (rp:Int) (at':V) (rl:Int)
noncomputable def pG.val(s:pG):V:=.fld ei (.loc s.sy) (.fld my (.fn 90) (.fld 507786126387 (.loc s.si) (.fld mz (.bool s.last) (.fld 8698112919751977867 (.int s.rp) (.fld 442348938261 (.loc s.fx) (.fld 7733423074918768967 (.loc s.ch) (.fld 130544522987915 (.loc s.ma) (.fld aB s.at' (.fld 122635212371334 (.int 0) (.fld BY (.int s.rl) (.fld 7508670789666489667 (.bool false) (.fld 1738104731 (.loc s.md) .nil))))))))))))
end
section
variable{K:Kc}{I σ₁ σ₂ J:List O}{v w x l sy i_ num tx:V}{n t p f a:Nat}{o:Ord}{ops:List cX}{mm:Nat->Int}{s:pG}{wd:S}
theorem Vj{l l' w:V}(h:V_ l w)(g:gF l' l):V_ l' w:=by
 refine aa8 h λa l0 v v' bK h1 h2=>?_;clear h;exact abe a l0 v v' bK (λX h Z M us q=>h1 _ _ _ _ _ (g _ _ _ _ _ q)) h2
theorem Dh{i:Int}(h0:0≤i)(h1:i<65536):bw i 65536=i:=by refine ah mod_eq ?_;exact tZ (by assumption) (by assumption)
theorem GN(hp:I[p]? =some (.inst 7 s.val))(hr:I[f]? =some (.inst 3 (hI num tx .none (.ak o.w) (.loc t))))(ht:I[t]? =some (.list (eP o.ops)))(oM:s.at'=.sym (ab a))(ha:a<65536)(ho:mq mm a o)(hdb:xc o=false)(hu:Ff i_):
  ae (aq UX (KT (n+9)) (.cons (.loc p) (.cons (.loc f) (.cons i_ .nil)))) I (.lst (oX mm a (cy o.many))) (I++[.list (eT o.ops)]):=by
 have hk:=ho.known;simp only[wz,cK] at hk;refine HK hk λY Y k3 Y Y k6 k7=>?_;clear hk
 have h96:ae (KT (n+9) 96 (.cons (.loc t) .nil)) I (.lst (gG o.ops)) I:=by
  refine ah (kt (g:=rE R96) (k:=n+8) rfl) ?_;refine oS (l':=.cons (.lst (eP o.ops)) .nil) ?_ (Vf k7 k6 (eB k3));show dN (cZ 8 ⟨I,[],[]⟩ (.loc t)) (OV.ok .nil) V.cons=_;have e1:=jJ (k:=7) ht (gH _ 5 o.ops);refine ah e1 ?_;rfl
 have acf:ae (KT (n+9) 100 (.cons (.lst (gG o.ops)) (.cons (.loc s.sy) (.cons s.at' (.cons i_ .nil))))) I (.loc I.length) (I++[.list (eT o.ops)]):=by
  refine ah (kt (g:=aq UP) (k:=n+8) rfl) ?_;exact Bz (n:=n+1) ho.fit.2.2 ho.fit.2.1 hu
 have h90:ae (KT (n+9) 90 (.cons (.ak o.w) (.cons (.loc I.length) (.cons (.sym (bw (ab a) 65536)) .nil)))) (I++[.list (eT o.ops)]) (.lst (oX mm a (cy o.many))) (I++[.list (eT o.ops)]):=by
  refine ah (kt (g:=rE V_) (k:=n+8) rfl) (ah (Dh (i:=ab a) (b9 a) (by show(a:Int)<65536;exact gT.mpr (by assumption))) ?_)
  rcases ho.enc with⟨q,_⟩|⟨_,q⟩
  ·rw[hdb] at q;exact absurd q nT
  ·refine oS (l':=.cons (.ak o.w) (.cons (.lst (eT o.ops)) (.cons (.sym (ab a)) .nil))) ?_ (Vj q (cP yP gF.refl));show dN (OV.ok (.ak o.w)) (dN (cZ 8 ⟨_,[],[]⟩ (.loc I.length)) (OV.ok (.cons (.sym (ab a)) .nil)) V.cons) V.cons=_;have e1:=jJ (k:=7) (I:=I++[.list (eT o.ops)]) (t:=I.length) (x:=eT o.ops) bR (wD _ _);refine ah e1 ?_;rfl
 refine ae.call (ns:=[aT,aJ,gA]) rfl ?_;refine d5 (eG (ai (eG (ai (bg (aI rfl) hr rfl) aF) h96) (ai (bg (aI rfl) hp rfl) (ai (bg (aI rfl) hp rfl) (ai (aI rfl) aF)))) acf) ?_;refine d5 (bg (aI rfl) (bq hp) rfl) ?_;refine GJ (ef (v:=.lst (oX mm a (cy o.many))) (σ₁:=I++[.list (eT o.ops)]) ?_);have hm:ae (rY .mod s.at' (.int (.ofNat 65536))) (I++[O.list (eT o.ops)]) (.sym (bw (ab a) 65536)) (I++[O.list (eT o.ops)]):=by refine ah oM ?_;exact⟨[],[],trivial,λbC o'=>by kernel_rfl⟩
 refine ae.and (aI (v:=.fn 90) rfl) (ae.and (ai (bg (aI rfl) (bq hr) rfl) (ai (aI rfl) (ai (cn (bg (aI rfl) (bq hp) rfl) bV hm) aF))) (ae.to h90 λB=>rfl))
end
noncomputable def hM(qs:List (Bool×Int)):List V:=qs.map λq=>oV q.1 q.2
noncomputable def QE(qs:List (Bool×Int)):List cX:=qs.map λq=>.nu q.1 q.2
noncomputable def WfS(I:List O):Prop:=∀o∈I,mI (λi=>i<I.length) o
section
variable{K:Kc}{I σ₁ σ₂ J:List O}{v w x l sy i_ num tx:V}{n t p f a:Nat}{o:Ord}{ops:List cX}{mm:Nat->Int}{s:pG}{wd:S}{E:Env}{qs:List (Bool×Int)}
theorem Ky{o1 o2:xg}{a b c:C}{v w:V}(ha:ae (a K E) I v I)(hb:ae (b K E) I w I)(h:br (fy o1 v w) I false I):ae (mZ o1 o2 a b c K E) I (.bool false) I:=ae.and ha (ae.and hb (ae.ite (b:=false) h ae.ok))
theorem aab{b:Bool}{i j:Int}:br (fy .le (.int j) (oV b i)) I (mY j i) I:=by cases b;exact br.ask;exact br.ok
theorem Vk{b:Bool}{i:Int}(h0:0≤i)(h1:i<256):ae (rY .mod (oV b i) (.int (.ofNat 256))) I (oV b i) I:=by
 have e:bw i 256=i:=by refine ah (nK i (by decide)) ?_;exact tZ (by assumption) (by assumption)
 cases b
 ·exact ae.to (v:=.sym i) ae.ok λB=>by show RE.ok (.sym (bw i 256)) B=_;exact ah e rfl
 ·exact ae.to (v:=.int i) ae.ok λB=>by show RE.ok (.int (bw i 256)) B=_;exact ah e rfl
theorem Fg(F:V->OV)(hF:∀b i,F (oV b i)=.ok (oV b i)):∀qs:List (Bool×Int),bZ F (aU (hM qs))=.ok (aU (hM qs)):=by
 intro zr
 induction zr with
 |nil=>
  exact rfl
 |cons q qs bN=>
  exact by
   show dN (F (oV q.1 q.2)) (bZ F (aU (hM qs))) V.cons=_;rw[hF,bN];rfl
theorem Kz(B:Mm)(b:Bool)(i:Int):bZ (cZ 8 B) (.cons (.lst (cX.tk (.nu b i) .nil)) .nil)=.ok (.cons (.lst (cX.tk (.nu b i) .nil)) .nil):=by
 show dN (cZ 8 B (.lst _)) (OV.ok .nil) V.cons=_;refine ah (mr (rS B 5 rfl _)) ?_;rfl
noncomputable section
noncomputable abbrev KC(p f n:Nat)(i_:V)(e:Env):Env:=.cons aT (.loc p) (.cons aJ (.loc f) (.cons gA i_ (.cons j3 (.loc n) e)))
noncomputable def BA(q:Bool×Int):V:=.lst (cX.tk (.nu q.1 q.2) .nil)
noncomputable def Vm(p f n:Nat)(i_:V)(qs:List (Bool×Int)):Nat->Env
 |0=>KC p f n i_ .nil
 |j+1=>match qs[j]? with|some q=>KC p f n i_ (.cons hZ (BA q) (.cons gz (oV q.1 q.2) .nil))|none=>KC p f n i_ .nil
noncomputable abbrev Vn:CS:=bI (B8 (u9 (gd .eq (jE 0 (aH (cV hZ) ck)) (cC (.int (.ofNat 1)))) (gd .eq (h_ (h_ (cV hZ) (cC (.int (.ofNat 0)))) (cC (.int (.ofNat 0)))) (cC (.str [116,101,120,116])))) (bI pX (bI DO fm)) fm) (bI (m_ gz (rZ 97 (aH (rZ 50 (aH (cV hZ) ck)) (aH (dZ (cV aT) ei) (aH (dZ (cV aT) aB) (aH (cV gA) ck)))))) (bI (B8 (mZ .le .lt (cC (.int (.ofNat 256))) (cV gz) (cC (.int (.ofNat 65408)))) (bI pX fm) fm) (bI (r6 (FN .append (cV j3) (aH (et .mod (cV gz) (cC (.int (.ofNat 256)))) ck))) fm)))
end
theorem KD(p f n:Nat)(i_:V)(qs:List (Bool×Int))(j:Nat):∃tl,Vm p f n i_ qs j=KC p f n i_ tl/\(tl=.nil∨∃x y,tl=.cons hZ x (.cons gz y .nil)):=by
 induction j with
 |zero=>exact aQ _ rfl (.inl rfl)
 |succ j=>
  have e:Vm p f n i_ qs (j+1)=match qs[j]? with|some q=>KC p f n i_ (.cons hZ (BA q) (.cons gz (oV q.1 q.2) .nil))|none=>KC p f n i_ .nil:=rfl
  refine ah e ?_
  cases qs[j]? with
  |none=>exact aQ _ rfl (.inl rfl)
  |some q=>exact aQ _ rfl (.inr (Ae _ _ rfl))
theorem GO{n m:Nat}{q:Bool×Int}{y:V}{xs:V}{i:Nat}(hp:I[p]? =some (.inst 7 s.val))(hi:I[i]? =some (.list xs))(hs:aO xs≤100)(q0:0≤q.2)(q1:q.2<256)
  (Ox:ae (K 50 (.cons (BA q) .nil)) I (Bs (oV q.1 q.2)) I) (Vo:ae (K 97 (.cons (Bs (oV q.1 q.2)) (.cons (.loc s.sy) (.cons s.at' (.cons i_ .nil))))) I (oV q.1 q.2) I) {tl:Env} (ht:tl=.nil∨tl=.cons gz y .nil):
  au (Vn K (KC p f i i_ (.cons hZ (BA q) tl))) I (.dw (KC p f i i_ (.cons hZ (BA q) (.cons gz (oV q.1 q.2) .nil)))) (I.set i (.list (a_ xs (.cons (oV q.1 q.2) .nil)))):=by
 refine bU (σ₁:=I) ⟨[],[],trivial,λbC o'=>by kernel_rfl⟩ ?_;refine d5 (v:=oV q.1 q.2) (eG (ai (eG (ai (aI rfl) aF) Ox) (ai (bg (aI rfl) hp rfl) (ai (bg (aI rfl) hp rfl) (ai (aI rfl) aF)))) Vo) ?_
 have e:eS (KC p f i i_ (.cons hZ (BA q) tl)) gz (oV q.1 q.2)=KC p f i i_ (.cons hZ (BA q) (.cons gz (oV q.1 q.2) .nil)):=by
  rcases ht with rfl|rfl<;>rfl
 refine ah e ?_;refine bU (Ky bV (aI rfl) (we (ZV (a:=256) (Int.not_le.mpr (by assumption))) aab)) ?_;exact i9 (mv (aI rfl) hi (cn (aI rfl) bV (Vk q0 q1)) hi (cU (by rw[fH];show aO xs+1≤_;exact dR (by assumption) (by decide)))) dx
theorem GP(hp:I[p]? =some (.inst 7 s.val))(hq:∀q∈qs,0≤q.2/\q.2<256)(hl:qs.length≤4)
  (Ox:∀(bK:List O)(q:Bool×Int),ae (K 50 (.cons (BA q) .nil)) bK (Bs (oV q.1 q.2)) bK) (Vo:∀(bK:List O)(q:Bool×Int),ae (K 97 (.cons (Bs (oV q.1 q.2)) (.cons (.loc s.sy) (.cons s.at' (.cons i_ .nil))))) bK (oV q.1 q.2) bK):
  au (forL (iX hZ) (.lst (aU (qs.map BA))) Vn K turns 0 (Vm p f I.length i_ qs 0)) (I++[.list .nil]) (.dw (Vm p f I.length i_ qs qs.length)) (I++[.list (aU (hM qs))]):=by
 have h:=E_ (K:=K) (bd:=Vn) (t:=iX hZ) (v:=.lst (aU (qs.map BA))) (l:=qs) BA (Vm p f I.length i_ qs) (λj=>I++[.list (aU (hM (qs.take j)))]) (λj Y=>tM) (bb (by assumption) (bW _ _)) λj q hj=>?_
 ·replace h:=lE▸h;exact h
 ·refine eQ λkk=>?_;refine aL (KD p f I.length i_ qs j) λtl he htl=>?_
  have Vp:Vm p f I.length i_ qs (j+1)=KC p f I.length i_ (.cons hZ (BA q) (.cons gz (oV q.1 q.2) .nil)):=by
   show(match qs[j]? with|some q=>_|none=>_)=_;exact ah hj rfl
  refine aD (hq q (jv hj)) λq0 q1=>?_;refine kk ?_;have Jt:qs.take (j+1)=qs.take j++[q] :=by refine ah n4 (ah hj ?_);rfl
  have Wb:a_ (aU (hM (qs.take j))) (.cons (oV q.1 q.2) .nil)=aU (hM (qs.take (j+1))):=by
   refine ah Jt ?_;show a_ _ (aU [oV q.1 q.2])=_;rw[rR,hM,hM,gq];rfl
  have hlen:aO (aU (hM (qs.take j)))≤100:=by rw[dD,hM,bx,gp];lia
  have turn:∀{tl:Env}{y:V},(tl=.nil∨tl=.cons gz y .nil)->_:=λ{tl y} ht=>GO (K:=K) (f:=f) (n:=0) (m:=0) (q:=q) (y:=y) (i:=I.length) (tl:=tl) (I:=I++[.list (aU (hM (qs.take j)))]) (bq hp) bR hlen q0 q1 (Ox _ q) (Vo _ q) ht;refine ah Vp (ah he ?_)
  rcases htl with rfl|⟨x,y,rfl⟩
  ·refine(aQ _ (λY Y=>rfl) (.inl (au.st (turn (y:=.nil) (.inl rfl)) ?_)));exact ah cH (ah Wb rfl)
  ·refine(aQ _ (λY Y=>rfl) (.inl (au.st (turn (y:=y) (.inr rfl)) ?_)));exact ah cH (ah Wb rfl)
theorem GQ(hp:I[p]? =some (.inst 7 s.val))(hr:I[f]? =some (.inst 3 (hI num tx .none w (.loc t))))(hq:∀q∈qs,0≤q.2/\q.2<256)(hl:qs.length≤4)
  (Z6:ae (K 91 (.cons (.loc t) .nil)) (I++[.list .nil]) (.lst (aU (qs.map BA))) (I++[.list .nil]))
  (Ox:∀(bK:List O)(q:Bool×Int),ae (K 50 (.cons (BA q) .nil)) bK (Bs (oV q.1 q.2)) bK) (Vo:∀(bK:List O)(q:Bool×Int),ae (K 97 (.cons (Bs (oV q.1 q.2)) (.cons (.loc s.sy) (.cons s.at' (.cons i_ .nil))))) bK (oV q.1 q.2) bK):
  ae (aq NQ K (.cons (.loc p) (.cons (.loc f) (.cons i_ .nil)))) I (.loc I.length) (I++[.list (aU (hM qs))]):=by
 refine ae.call (ns:=[aT,aJ,gA]) (E:=.cons aT (.loc p) (.cons aJ (.loc f) (.cons gA i_ .nil))) rfl (d5 lu ?_);refine aL (KD p f I.length i_ qs qs.length) λtl he Y=>?_;refine wJ (ε₁:=Vm p f I.length i_ qs qs.length) (eG (ai (bg (aI rfl) (bq hr) rfl) aF) Z6) (GP hp hq hl Ox Vo) (ef (aI ?_));refine ah he ?_;rfl
theorem Oy{n i:Nat}{B:Mm}(h:n≤i):Gl n 8 B (.loc i)=q8 (Gl n 7 B) (bk B i):=by
 have e:Gl n 8 B (.loc i)=bif a9 i n then OV.ok (.loc i) else q8 (Gl n 7 B) (bk B i):=rfl
 refine ah e (ah (QD (Nat.not_lt_of_le (by assumption))) ?_);rfl
theorem GR{F:V->OV}{B:Mm}{i:Nat}{l:V}(h:e_ B.bk i=.ok (.list l))(hl:bZ F l=.ok l):q8 F (bk B i)=.ok (.lst l):=by
 obtain⟨I,a,b⟩:=B;have h:e_ I i=.ok (.list l):=h;have e:bk ⟨I,a,b⟩ i=e_ I i:=rfl;refine ah e (ah h ?_);have e2:q8 F (.ok (.list l))=gO (bZ F) V.lst l:=rfl;refine ah e2 ?_;have e3:gO (bZ F) V.lst l= @OV.rec (λY=>OV) OV.no (λl=>OV.ok (.lst l)) (bZ F l):=rfl;exact ah e3 (ah hl rfl)
theorem Oz{g:Kc->V->Mm->RE}{l:V}(run:ae (g K l) I (.loc I.length) (I++[.list (aU (hM qs))]))(hw:WfS I):ae (Qp g K l) I (.lst (aU (hM qs))) I:=by
 have h0:Gl I.length 8 ⟨I++[.list (aU (hM qs))],[],[]⟩ (.loc I.length)=.ok (.lst (aU (hM qs))):=by
  refine ah (Oy (bT _)) ?_;exact GR (bM bR) (Fg _ (λb i=>by induction b<;>rfl) qs)
 exact Df run rfl h0 hw
end
section
variable{K:Kc}{I σ₁ σ₂ J:List O}{v w x l sy i_ num tx:V}{n t p f a:Nat}{o:Ord}{ops:List cX}{mm:Nat->Int}{s:pG}{wd:S}{E:Env}{qs:List (Bool×Int)}
theorem KG(hp:I[p]? =some (.inst 7 s.val))(hr:I[f]? =some (.inst 3 (hI num tx .none w (.loc t))))(ht:I[t]? =some (.list (eP (QE qs))))(hsh:ZT (QE qs)=true)(hq:∀q∈qs,0≤q.2/\q.2<256)(hl:qs.length≤4)(hw:WfS I):
  ae (KT (n+9) 120 (.cons (.loc p) (.cons (.loc f) (.cons i_ .nil)))) I (.lst (aU (hM qs))) I:=by
 have hpc:GD (QE qs)=aU (qs.map BA):=by rw[De,QE,fM];rfl
 have Z6:ae (KT (n+8) 91 (.cons (.loc t) .nil)) (I++[.list .nil]) (.lst (aU (qs.map BA))) (I++[.list .nil]):=by
  refine ah (kt (g:=rE aaa) (k:=n+7) rfl) (eV hpc ?_);refine oS (l':=.cons (.lst (eP (QE qs))) .nil) ?_ (yZ (Bu hsh) (mu (gH _ 5 _)));show dN (cZ 8 ⟨_,[],[]⟩ (.loc t)) (OV.ok .nil) V.cons=_;have e1:=jJ (k:=7) (I:=I++[.list .nil]) (bq ht) (gH _ 5 (QE qs));refine ah e1 ?_;rfl
 have Ox:∀(bK:List O)(q:Bool×Int),ae (KT (n+8) 50 (.cons (BA q) .nil)) bK (Bs (oV q.1 q.2)) bK:=λbK q=>by
  refine ah (kt (g:=rE R50) (k:=n+7) rfl) ?_;exact oS (Kz _ q.1 q.2) (yZ (Z4 q.1 q.2) (mu (rS _ 5 rfl _)))
 have Vo:∀(bK:List O)(q:Bool×Int),ae (KT (n+8) 97 (.cons (Bs (oV q.1 q.2)) (.cons (.loc s.sy) (.cons s.at' (.cons i_ .nil))))) bK (oV q.1 q.2) bK:=λbK q=>by
  obtain⟨b,i⟩:=q
  generalize oV b i=y
  generalize V.loc s.sy=y2
  generalize s.at'=y3
  exact⟨[],[],trivial,λbC o'=>by kernel_rfl⟩
 refine ah (kt (g:=Qp (aq NQ)) (k:=n+8) rfl) ?_;exact Oz (GQ hp hr hq hl Z6 Ox Vo) hw
theorem Fh(w:S):∀L:List S,br (u0 (.ak w) (aU (L.map V.str))) I (ku w L) I
 | [] =>br.ok
 |u::L=>by
  have hf:pI (aU (L.map V.str))=true:=by
   induction L with
   |nil=>rfl
   |cons x L ih=>exact ih
  refine a6 (Fh w L) λh1 o1 p1 e1=>?_;have step:∀B,u0 (.ak w) (aU ((u::L).map V.str)) B=neT (pI (aU (L.map V.str))) (ask (sEq u w) B) (u0 (.ak w) (aU (L.map V.str))):=λB=>rfl;have hb:ku w (u::L)=(sEq u w||ku w L):=rfl;refine ah hb ?_;refine cW (sEq u w) (λhs=>?_) (λhs=>?_);rotate_left
  ·refine(bA (hB [true]) [sEq u w=true] ⟨hs,trivial⟩ (λbC o'=>?_));rw[step,hf];rfl
  ·refine(bA (.bool false::h1) (o1++[sEq u w=false]) (AllP.app p1 ⟨hs,trivial⟩) (λbC o'=>?_));rw[step,hf,bH];exact e1 bC ((sEq u w=false)::o')
theorem ky{L:List S}{v':Bool}(h:ku wd L=v'):br (fy .BO (.ak wd) (.tup (aU (L.map V.str)))) I v' I:=h▸Fh wd L
theorem sJ{L:List S}(h:ku wd Bm=false)(hL:∀t∈L,t∈Bm):ku wd L=false:=by
 refine cW (ku wd L) (λq=>?_) (λq=>?_)
 ·rfl
 ·refine aL (lJ.mp q) λt ht e=>?_
  have:ku wd Bm=true:=lJ.mpr (aQ t (hL t ht) e);rw[h] at this;exact absurd this nT
theorem aac{t:S}(h:ku wd Bm=false)(ht:t∈Bm):sEq wd t=false:=by
 have h1:=sJ (L:=[t]) h (λx hx=>by refine ah (aV.mp hx) ?_;exact ht);have h1:(sEq t wd||false)=false:=h1;rw[nH,fP] at h1;rw[fP];refine cW (wd==t) (λq=>?_) (λq=>?_)
 ·rfl
 ·rw[eq_of_beq q,beq_self_eq_true] at h1;exact absurd h1 nF
end
section
variable{K:Kc}{I σ₁ σ₂ J:List O}{v w x l sy i_ num tx:V}{n t p f a:Nat}{o:Ord}{ops:List cX}{mm:Nat->Int}{s:pG}{wd:S}{E:Env}{qs:List (Bool×Int)}
theorem KH:∀{l:List Nat}{ops:List cX},rO mm a l (eT ops)->∃qs,ops=QE qs/\qs.map iC=l.map (oE mm a)
 | [],[],_=>(aQ [] rfl rfl)
 | [],p::ops,h=>nomatch h
 |k::l,[],h=>by refine a6 h λx r e Y=>?_;clear h;(injection e)
 |k::l,p::ops,h=>by
  refine bJ h λx r e hx hr=>?_;clear h;injection e with e1 e2
  subst e2;refine aL (KH hr) λqs kh h2=>?_;subst kh
  induction p with
  |nu b i=>
   have hi:x=oV b i:=by injection e1 with e1;injection e1 with _ e1;injection e1 with e1 _;exact e1.symm
   subst hi
   have:oE mm a k=i:=by
    rcases hx with h|h<;>induction b<;>first|(injection h with h;exact h.symm)|(injection h)
   exact⟨(b,i)::qs,rfl,by exact ah dB (ah dB (ah h2 (ah this rfl)))⟩
  |nm k s=>injection e1 with e1;injection e1 with e1 _;injection e1 with e1;induction k<;>cases e1
  |me s=>injection e1 with e1;injection e1 with e1 _;injection e1 with e1;cases e1
  |ad s=>injection e1 with e1;injection e1 with e1 _;injection e1 with e1;cases e1
  |ix s d=>injection e1 with e1;injection e1 with e1 _;injection e1 with e1;cases e1
theorem Fi:∀l:List Nat,oX mm a l=aU (hM (l.map λk=>(false,oE mm a k)))| [] =>rfl|k::l=>congrArg (V.cons _) (Fi l)
noncomputable abbrev OC(b:Bool):V:=bif b then .none else .int (.ofNat 0)
theorem Di(hm:∀i,0≤mm i/\mm i<256)(hp:I[p]? =some (.inst 7 s.val))(hr:I[f]? =some (.inst 3 (hI num tx .none (.ak o.w) (.loc t))))(ht:I[t]? =some (.list (eP o.ops)))(oM:s.at'=.sym (ab a))(ha:a<65536)(ho:mq mm a o)(hw:WfS I):
  ∃qs J,ae (aq UW (KT (n+10)) (.cons (.loc p) (.cons (.loc f) .nil))) I (.lst (aU (hM qs))) (I++J)/\qs.map iC=(cy o.many).map (oE mm a):=by
 have hk:=ho.known;simp only[wz,cK,iy] at hk;refine HK hk λY k2 k3 Y k5 k6 k7=>?_;clear hk
 have OD:ae (pV (aH (dZ (cV aJ) d_) (aH (w0 (dZ (cV aT) mz) (cC .none) (cC (.int (.ofNat 0)))) ck)) (KT (n+10)) (.cons aT (.loc p) (.cons aJ (.loc f) .nil))) I (.tup (.cons (.ak o.w) (.cons (OC s.last) .nil))) I:=by
  refine hH (ai (bg (aI rfl) hr rfl) (ai ?_ aF)) (by cases s.last<;>rfl);have hl:gc s.val mz=.ok (.bool s.last):=rfl;have h1:ae (dZ (cV aT) mz (KT (n+10)) (.cons aT (.loc p) (.cons aJ (.loc f) .nil))) I (.bool s.last) I:=bg (aI rfl) hp hl;refine cW (s.last) (λhq=>?_) (λhq=>?_);rotate_left
  ·rw[hq] at h1;exact EW h1 bV
  ·rw[hq] at h1;exact EX h1 bV
 let E:Env:=.cons aT (.loc p) (.cons aJ (.loc f) (.cons d_ (.ak o.w) (.cons gA (OC s.last) .nil)))
 have hun:∀h o',gK [d_,gA] (.tup (.cons (.ak o.w) (.cons (OC s.last) .nil))) (.cons aT (.loc p) (.cons aJ (.loc f) .nil)) ⟨I,h,o'⟩=.ok (.cons aT (.loc p) (.cons aJ (.loc f) (.cons d_ (.ak o.w) (.cons gA (OC s.last) .nil)))):=λh o'=>rfl
 have aad:ku o.w [[68,66],[68,69,70,66],[68,69,70,77]] =xc o:=by
  have h2:=sJ (L:=[[68,69,70,66],[68,69,70,77]]) k2 (by decide);show(sEq [68,66] o.w||ku o.w [[68,69,70,66],[68,69,70,77]])=sEq o.w [68,66];rw[h2,nH,fP,fP];exact tQ.mpr ⟨λh=>by rw[eq_of_beq h];exact beq_self_eq_true _,λh=>by rw[eq_of_beq h];exact beq_self_eq_true _⟩
 rcases ho.enc with⟨hd,KI⟩|⟨hd,_⟩
 ·refine aL (KH KI) λqs OF hsn=>?_;rw[OF] at ht k7 k3;have Wc:qs.length≤4:=by have:=eB k3;rw[QE,bx] at this;exact this
  have hqr:∀q∈qs,0≤q.2/\q.2<256:=λq hq=>by
   have:q.2∈qs.map iC:=t8 hq;rw[hsn] at this;refine aL (dC.mp this) λk Y e=>?_;refine eV e ?_;exact hm _
  refine(bA qs [] ?_ hsn);rw[cM];refine ae.call (ns:=[aT,aJ]) rfl (kr OD hun ?_);refine bU (bu (aI rfl) bV (br.ok (b:=false))) ?_;refine kq (bu (aI rfl) bV (ky (L:=[[68,66],[68,69,70,66],[68,69,70,77]]) (aad.trans hd))) (ef (iq (f:=120) (aI rfl) hp rfl (ai (aI rfl) (ai (aI rfl) aF)) (λY Y Y=>rfl) ?_));exact KG (n:=n+1) hp hr ht k7 hqr Wc hw
 ·refine⟨(cy o.many).map λk=>(false,oE mm a k),[.list (eT o.ops)],?_,by refine ah fM ?_;rfl⟩;rw[←Fi];refine ae.call (ns:=[aT,aJ]) rfl (kr OD hun ?_);refine bU (bu (aI rfl) bV (br.ok (b:=false))) ?_;refine bU (bu (aI rfl) bV (ky (L:=[[68,66],[68,69,70,66],[68,69,70,77]]) (aad.trans hd))) ?_;refine bU (bu (aI rfl) bV (ky (L:=[[68,87],[68,69,70,87]]) (sJ k2 (by decide)))) ?_;refine bU (bu (aI rfl) bV (ky (L:=[[68,83],[68,69,70,83]]) (sJ k2 (by decide)))) ?_
  have fin:∀(u:V),Ff u->au (bI (vd (pK 503422205217 [(7,119)] (cV aT) (aH (cV aJ) (aH (cV gA) ck)))) fm (KT (n+10)) (.cons aT (.loc p) (.cons aJ (.loc f) (.cons d_ (.ak o.w) (.cons gA u .nil))))) I (.ret (.lst (oX mm a (cy o.many)))) (I++[.list (eT o.ops)]):=λu hu=>by
   refine ef (iq (f:=119) (aI rfl) hp rfl (ai (aI rfl) (ai (aI rfl) aF)) (λY Y Y=>rfl) ?_);refine ah (kt (g:=aq UX) (k:=n+9) rfl) ?_;exact GN hp hr ht oM ha ho hd hu
  refine cW (s.last) (λhq=>?_) (λhq=>?_);rotate_left
  ·exact bU (iJ (bu (aI rfl) bV (br.ok (b:=false)))) (fin .none (.inl rfl))
  ·have acg:ae (et .mod (et .add (dZ (cV aT) aB) (cC (.int (.ofNat 2)))) (cC (.int (.ofNat 65536))) (KT (n+10)) (.cons aT (.loc p) (.cons aJ (.loc f) (.cons d_ (.ak o.w) (.cons gA (.int (.ofNat 0)) .nil))))) I (.sym (bw (aS (ab a) 2) 65536)) I:=by
    have h0:ae (dZ (cV aT) aB (KT (n+10)) (.cons aT (.loc p) (.cons aJ (.loc f) (.cons d_ (.ak o.w) (.cons gA (.int (.ofNat 0)) .nil))))) I (.sym (ab a)) I:=by refine eV oM ?_;exact bg (aI rfl) hp rfl
    exact cn (cn h0 bV (ae.to (v:=.sym (aS (ab a) 2)) ae.ok λB=>rfl)) bV (ae.to ae.ok λB=>rfl)
   refine cW (ku o.w [[74,82],[68,74,78,90]]) (λhj=>?_) (λhj=>?_);rotate_left
   ·exact rT (g_ (bu (aI rfl) bV (br.ok (b:=true))) (bu (aI rfl) bV (ky (L:=[[74,82],[68,74,78,90]]) hj))) (d5 acg dx) (fin _ (.inr (.inr ⟨_,rfl⟩)))
   ·exact bU (g_ (bu (aI rfl) bV (br.ok (b:=true))) (bu (aI rfl) bV (ky (L:=[[74,82],[68,74,78,90]]) hj))) (fin _ (.inr (.inl ⟨0,rfl⟩)))
end
noncomputable section
structure Am where (oc sy li er:Nat)
noncomputable def Am.val(m:Am):V:=.fld kU (.loc m.oc) (.fld ei (.loc m.sy) (.fld xK (.loc m.li) (.fld 130557560470435 (.loc m.er) (.fld 534181223479 .none .nil))))
structure Po(I:List O)(p:Nat)(s:pG)(m:Am)(gi dP lis:V):Prop where
 hp:I[p]? =some (.inst 7 s.val)
 hm:I[s.md]? =some (.inst 6 m.val)
 ho:I[m.oc]? =some (.list dP)
 hl:I[m.li]? =some (.list lis)
 hs:I[s.si]? =some (.list gi)
 hma:I[s.ma]? =some (.dict .nil)
 her:I[m.er]? =some (.list .nil)
 Qg:I[s.sy]? =some (.dict .nil)
 nd: [p,m.oc,m.li,s.si].Nodup
 OG:∀i∈ [p,m.oc,m.li,s.si],∀j∈ [s.md,s.ma,m.er,s.sy],i≠j
end
section
variable{K:Kc}{I σ₁ σ₂ J:List O}{v w x l sy i_ num tx gi dP lis:V}{n t p f a:Nat}{o:Ord}{mm:Nat->Int}{s:pG}{m:Am}{E:Env}{qs:List (Bool×Int)}
theorem Po.app(h:Po I p s m gi dP lis):Po (I++J) p s m gi dP lis:=⟨bq h.hp,bq h.hm,bq h.ho,bq h.hl,bq h.hs,bq h.hma,bq h.her,bq h.Qg,h.nd,h.OG⟩
theorem Po.ne(h:Po I p s m gi dP lis):(p≠m.oc/\p≠m.li/\p≠s.si)/\(m.oc≠m.li/\m.oc≠s.si)/\m.li≠s.si:=by
 have:=h.nd;simp only[gW,aR,fw,or_false,not_or] at this;refine mG this λa b c Y=>?_;clear this;exact bL a b c
theorem Po.fix(h:Po I p s m gi dP lis){i:Nat}{ob:O}(hi:i∈ [p,m.oc,m.li,s.si]):(I.set i ob)[s.md]? =some (.inst 6 m.val)/\(I.set i ob)[s.ma]? =some (.dict .nil)/\(I.set i ob)[m.er]? =some (.list .nil)/\(I.set i ob)[s.sy]? =some (.dict .nil):=
 (ib (dX h.hm (h.OG i hi _ (by simp)).symm) (dX h.hma (h.OG i hi _ (by simp)).symm) (dX h.her (h.OG i hi _ (by simp)).symm) (dX h.Qg (h.OG i hi _ (by simp)).symm))
theorem Po.GS(h:Po I p s m gi dP lis){s':pG}(e:s'.md=s.md/\s'.si=s.si/\s'.ma=s.ma/\s'.sy=s.sy):Po (I.set p (.inst 7 s'.val)) p s' m gi dP lis:=by
 refine aD h.ne λvH Y=>?_;refine c_ vH λa1 a2 a3=>?_;clear vH;refine mG e λe1 e2 e3 e4=>?_;clear e;refine mG (h.fix (i:=p) (ob:=.inst 7 s'.val) (by simp)) λf1 f2 f3 f4=>?_;exact⟨get_eq (bO h.hp),by refine ah e1 ?_;exact f1,dX h.ho a1.symm,dX h.hl a2.symm,by refine ah e2 ?_;exact dX h.hs a3.symm,by refine ah e3 ?_;exact f2,f3,by refine ah e4 ?_;exact f4,by refine ah e2 ?_;exact h.nd,by refine ah e1 (ah e2 (ah e3 (ah e4 ?_)));exact h.OG⟩
theorem Po.lT(h:Po I p s m gi dP lis){ocs':V}:Po (I.set m.oc (.list ocs')) p s m gi ocs' lis:=by
 refine c_ h.ne λvI AP c1=>?_;refine c_ vI λa1 a2 a3=>?_;clear vI;refine aD AP λb1 b2=>?_;clear AP;refine mG (h.fix (i:=m.oc) (ob:=.list ocs') (by simp)) λf1 f2 f3 f4=>?_;exact⟨dX h.hp a1,f1,get_eq (bO h.ho),dX h.hl b1.symm,dX h.hs b2.symm,f2,f3,f4,h.nd,h.OG⟩
theorem Po.ach(h:Po I p s m gi dP lis){lis':V}:Po (I.set m.li (.list lis')) p s m gi dP lis':=by
 refine c_ h.ne λQF AQ c1=>?_;refine c_ QF λa1 a2 a3=>?_;clear QF;refine aD AQ λb1 b2=>?_;clear AQ;refine mG (h.fix (i:=m.li) (ob:=.list lis') (by simp)) λf1 f2 f3 f4=>?_;exact⟨dX h.hp a2,f1,dX h.ho b1,get_eq (bO h.hl),dX h.hs c1.symm,f2,f3,f4,h.nd,h.OG⟩
theorem Po.aci(h:Po I p s m gi dP lis){szs':V}:Po (I.set s.si (.list szs')) p s m szs' dP lis:=by
 refine c_ h.ne λQG QH c1=>?_;refine c_ QG λa1 a2 a3=>?_;clear QG;refine aD QH λb1 b2=>?_;clear QH;refine mG (h.fix (i:=s.si) (ob:=.list szs') (by simp)) λf1 f2 f3 f4=>?_;exact⟨dX h.hp a3,f1,dX h.ho b2,dX h.hl c1,get_eq (bO h.hs),f2,f3,f4,h.nd,h.OG⟩
theorem wM{q:Nat->Prop}:∀{l m:V},dQ q l->dQ q m->dQ q (a_ l m):=by
 intro l m h g
 induction l with
 |cons a r _ ih=>exact⟨h.1,ih h.2⟩
 |kv k v r _ _ ih=>exact⟨h.1,ih h.2⟩
 |_=>exact g
noncomputable def dq(n:Nat)(I:List O):Prop:=∀o∈I,mI (λi=>i<n) o
theorem dq.set{ob:O}{i:Nat}(h:dq n I)(g:mI (λi=>i<n) ob):dq n (I.set i ob):=λo ho=>by
 rcases zF ho with q|q
 ·exact h o q
 ·refine ah q ?_;exact g
theorem dq.get{ob:O}{i:Nat}(h:dq n I)(e:I[i]? =some ob):mI (λi=>i<n) ob:=h _ (jv e)
noncomputable def pG.cnt(s:pG)(A:Int)(k:Nat):pG:={s with at':=.sym (aS A (ab k)),rp:=aS s.rp 1}
theorem pG.locs{s:pG}{A:Int}{k n:Nat}(oM:s.at'=.sym A)(h:dQ (λi=>i<n) s.val):dQ (λi=>i<n) (s.cnt A k).val:=by
 unfold pG.val at h;rw[oM] at h;exact h
theorem GU{A:Int}{k:Nat}(h:Po I p s m gi dP lis)(oM:s.at'=.sym A)(hz:aO gi≤1000)(hL:dq n I):
  ∃bK szs',ae (aq UU K (.cons (.loc p) (.cons (.int (ab k)) .nil))) (I++J) .none (bK++J)/\Po bK p (s.cnt A k) m szs' dP lis/\bK.length=I.length/\aO szs'≤aO gi+1/\dq n bK:=by
 have hl:gc s.val mz=.ok (.bool s.last):=rfl
 have tail:∀{τ:List O}{zz:V},Po τ p s m zz dP lis->au (bI (vc (cV aT) aB .add (cV dG)) (bI (vc (cV aT) 8698112919751977867 .add (cC (.int (.ofNat 1)))) fm) K (.cons aT (.loc p) (.cons dG (.int (ab k)) .nil))) (τ++J) (.dw (.cons aT (.loc p) (.cons dG (.int (ab k)) .nil))) (τ.set p (.inst 7 (s.cnt A k).val)++J):=λ{τ zz} h=>by
  refine y6 (u:=.sym A) (v:=.sym (aS A (ab k))) (aI rfl) h.app.hp (by refine eV oM ?_;rfl) (aI rfl) (λB=>rfl) rfl ?_;have e1:hP s.val aB (.sym (aS A (ab k)))=({s with at':=.sym (aS A (ab k))}:pG).val:=rfl;refine ah e1 ?_;refine y6 (u:=.int s.rp) (v:=.int (aS s.rp 1)) (aI rfl) (get_eq (bO h.app.hp)) rfl bV (λB=>rfl) rfl ?_;rw[qD,kQ (bO h.hp)];exact dx
 have h1:ae (dZ (cV aT) mz K (.cons aT (.loc p) (.cons dG (.int (ab k)) .nil))) (I++J) (.bool s.last) (I++J):=bg (aI rfl) h.app.hp hl;have hv:mI (λi=>i<n) (.inst 7 (s.cnt A k).val):=pG.locs oM (hL.get h.hp)
 rcases zo s.last with hq|hq
 ·rw[hq] at h1;exact⟨_,gi,ae.eH (ns:=[aT,dG]) rfl (bU (EV h1) (tail h)),h.GS (ib rfl rfl rfl rfl),by simp,fZ _,hL.set hv⟩
 ·have h2:=h.aci (szs':=a_ gi (.cons (.int (ab k)) .nil));rw[hq] at h1;have ha:=mv (K:=K) (E:=.cons aT (.loc p) (.cons dG (.int (ab k)) .nil)) (o:=dZ (cV aT) 507786126387) (a:=cV dG) (y:=.int (ab k)) (bg (aI rfl) h.app.hp rfl) h.app.hs (aI rfl) (h.app (J:=J)).hs (cU (by rw[fH];show aO gi+1≤_;exact dR (by assumption) (by decide)));rw[kQ (bO h.hs)] at ha;exact⟨_,a_ gi (.cons (.int (ab k)) .nil),ae.eH (ns:=[aT,dG]) rfl (rT (EV h1) (i9 ha dx) (tail h2)),h2.GS (ib rfl rfl rfl rfl),by simp,(by rw[fH];exact bT _),(hL.set (show mI (λi=>i<n) (.list (a_ gi (.cons (.int (ab k)) .nil))) from wM (hL.get h.hs) ⟨trivial,trivial⟩)).set hv⟩
end
noncomputable section
noncomputable def y7(a:Nat)(x:(Bool×Int)×Nat):V:=.tup (.cons (.sym (bw (aS (ab a) (ab x.2)) 65536)) (.cons (oV x.1.1 x.1.2) .nil))
noncomputable def mX(a:Nat)(qs:List (Bool×Int)):List V:=qs.zipIdx.map (y7 a)
noncomputable def enT(x:(Bool×Int)×Nat):V:=.tup (.cons (.int (ab x.2)) (.cons (oV x.1.1 x.1.2) .nil))
noncomputable abbrev y8(p f:Nat)(l:V)(e:Env):Env:=.cons aT (.loc p) (.cons aJ (.loc f) (.cons kU l e))
noncomputable def Wd(p f:Nat)(l:V)(qs:List (Bool×Int)):Nat->Env
 |0=>y8 p f l .nil
 |j+1=>match qs[j]? with|some q=>y8 p f l (.cons eb (.int (ab j)) (.cons ec (oV q.1 q.2) .nil))|none=>y8 p f l .nil
end
section
variable{K:Kc}{I σ₁ σ₂ J:List O}{v w x l sy i_ num tx gi dP lis wd tk:V}{n t p f a:Nat}{o:Ord}{mm:Nat->Int}{s:pG}{m:Am}{E:Env}{qs:List (Bool×Int)}
theorem set_same{ob:O}{i:Nat}(h:I[i]? =some ob):I.set i ob=I:=by
 obtain⟨hi,e⟩:=cA.mp h;refine eV e ?_;exact List.set_getElem_self hi
theorem KJ(qs:List (Bool×Int))(j:Nat):∃tl,Wd p f l qs j=y8 p f l tl/\(tl=.nil∨∃x y,tl=.cons eb x (.cons ec y .nil)):=by
 induction j with
 |zero=>exact aQ _ rfl (.inl rfl)
 |succ j=>
  have e:Wd p f l qs (j+1)=match qs[j]? with|some q=>y8 p f l (.cons eb (.int (ab j)) (.cons ec (oV q.1 q.2) .nil))|none=>y8 p f l .nil:=rfl
  rw[e]
  cases qs[j]? with
  |none=>exact aQ _ rfl (.inl rfl)
  |some q=>exact aQ _ rfl (.inr (Ae _ _ rfl))
theorem OH{l:List V}{g:List (V×Nat)}(hg:g=l.zipIdx):LS (.G_ (.lst (aU l))) I (g.map λx=>.tup (.cons (.int (ab x.2)) (.cons x.1 .nil))):=λh o j=>by
 have e:drawn (.G_ (.lst (aU l))) j ⟨I,h,o⟩=HD j (eW (aU l) j):=rfl;rw[e,mV,hg,eI,lK]
 cases l[j]? with
 |none=>rfl
 |some x=>
  show RD.ok _=RD.ok _;rw[d8]
theorem aae(qs:List (Bool×Int)):qs.zipIdx.map enT=(hM qs).zipIdx.map λx=>.tup (.cons (.int (ab x.2)) (.cons x.1 .nil)):=by
 rw[hM,List.zipIdx_map,fM];rfl
noncomputable abbrev Vq:CS:=bI (r6 (FN .append (dZ (dZ (cV aT) 1738104731) kU) (aH (pV (aH (et .mod (et .add (dZ (cV aT) aB) (cV eb)) (cC (.int (.ofNat 65536)))) (aH (cV ec) ck))) ck))) fm
theorem KN{q:Bool×Int}{j:Nat}(h:Po I p s m gi dP lis)(oM:s.at'=.sym (ab a))(hz:aO dP≤5000):au (Vq K (y8 p f l (.cons eb (.int (ab j)) (.cons ec (oV q.1 q.2) .nil)))) (I++J) (.dw (y8 p f l (.cons eb (.int (ab j)) (.cons ec (oV q.1 q.2) .nil)))) (I.set m.oc (.list (a_ dP (.cons (y7 a (q,j)) .nil)))++J):=by
 have h0:ae (dZ (cV aT) aB K (y8 p f l (.cons eb (.int (ab j)) (.cons ec (oV q.1 q.2) .nil)))) (I++J) (.sym (ab a)) (I++J):=by refine eV oM ?_;exact bg (aI rfl) h.app.hp rfl
 have ht:ae (pV (aH (et .mod (et .add (dZ (cV aT) aB) (cV eb)) (cC (.int (.ofNat 65536)))) (aH (cV ec) ck)) K (y8 p f l (.cons eb (.int (ab j)) (.cons ec (oV q.1 q.2) .nil)))) (I++J) (y7 a (q,j)) (I++J):=
  hH (ai (cn (cn h0 (aI rfl) (ae.to (v:=.sym (aS (ab a) (ab j))) ae.ok λB=>rfl)) bV (ae.to ae.ok λB=>rfl)) (ai (aI rfl) aF)) rfl
 have ha:=mv (K:=K) (o:=dZ (dZ (cV aT) 1738104731) kU) (bg (bg (aI rfl) h.app.hp rfl) (h.app (J:=J)).hm rfl) h.app.ho ht h.app.ho (cU (by rw[fH];show aO dP+1≤_;exact dR (by assumption) (by decide)));rw[kQ (bO h.ho)] at ha;exact i9 ha dx
theorem KO(h:Po I p s m gi dP lis)(oM:s.at'=.sym (ab a))(hz:aO dP≤4000)(hi:pO dP=true)(hl:qs.length≤4):
  au (forL (gK [eb,ec]) (.G_ (.lst (aU (hM qs)))) Vq K turns 0 (Wd p f l qs 0)) (I++J) (.dw (Wd p f l qs qs.length)) (I.set m.oc (.list (a_ dP (aU (mX a qs))))++J):=by
 have hlen:qs.zipIdx.length=qs.length:=by simp
 have Wb:∀j q,qs[j]? =some q->a_ (a_ dP (aU ((qs.zipIdx.take j).map (y7 a)))) (.cons (y7 a (q,j)) .nil)=a_ dP (aU ((qs.zipIdx.take (j+1)).map (y7 a))):=λj q hj=>by
  have hz:qs.zipIdx[j]? =some (q,j):=by refine ah (lK) (ah hj ?_);simp
  have Jt:qs.zipIdx.take (j+1)=qs.zipIdx.take j++[(q,j)] :=by refine ah n4 (ah hz ?_);rfl
  rw[Jt,gq,←rR]
  have:∀(x y z:V),pO x=true->a_ (a_ x y) z=a_ x (a_ y z):=by
   intro x y z hx
   induction x with
   |cons a r _ ih=>exact congrArg (V.cons a) (ih hx)
   |nil=>rfl
   |_=>exact absurd hx nT
  rw[this _ _ _ hi];rfl
 have hr:=E_ (K:=K) (bd:=Vq) (t:=gK [eb,ec]) (v:=.G_ (.lst (aU (hM qs)))) (l:=qs.zipIdx) enT (Wd p f l qs) (λj=>I.set m.oc (.list (a_ dP (aU ((qs.zipIdx.take j).map (y7 a)))))++J) (λj Y=>by rw[aae];exact OH rfl) (by omega) λj x hj=>?_
 ·rw[hlen,←hlen,lE,hlen] at hr
  have e0:I.set m.oc (.list (a_ dP (aU ((qs.zipIdx.take 0).map (y7 a)))))=I:=by
   refine ah jQ ?_;show I.set m.oc (.list (a_ dP .nil))=I;refine ah (mj hi) ?_;exact set_same h.ho
  rw[e0] at hr;exact hr
 ·have hjq:∃q,qs[j]? =some q/\x=(q,j):=by
   rw[lK] at hj;refine aL (zP.mp hj) λq h1 h2=>?_;exact⟨q,h1,by refine eV h2 ?_;simp⟩
  refine aL hjq λq hq l_=>?_;clear hjq;subst l_;refine aL (KJ (p:=p) (f:=f) (l:=l) qs j) λtl he htl=>?_
  have Vp:Wd p f l qs (j+1)=y8 p f l (.cons eb (.int (ab j)) (.cons ec (oV q.1 q.2) .nil)):=by
   show(match qs[j]? with|some q=>_|none=>_)=_;exact ah hq rfl
  have KQ:=h.lT (ocs':=a_ dP (aU ((qs.zipIdx.take j).map (y7 a))));have turn:=KN (K:=K) (f:=f) (l:=l) (J:=J) (q:=q) (j:=j) KQ oM (by rw[fH,dD,bx,gp];lia);rw[qD,Wb j q hq] at turn;refine ah Vp (ah he ?_)
  rcases htl with rfl|⟨x,y,rfl⟩<;>exact aQ _ (λY Y=>rfl) (.inl turn)
end
section
variable{K:Kc}{I σ₁ σ₂ J:List O}{v w x l sy i_ num tx gi dP lis wd tk:V}{n N t p f a:Nat}{o:Ord}{mm:Nat->Int}{s:pG}{m:Am}{E:Env}{qs:List (Bool×Int)}
theorem Fj{q:Nat->Prop}:∀{l:List V},(∀x∈l,dQ q x)->dQ q (aU l):=by
 intro zr
 induction zr with
 |nil=>
  exact @λ_=>trivial
 |cons x l bN=>
  exact @λh=>⟨h x aW,bN λy hy=>h y (aP _ hy)⟩
theorem Fm{q:Nat->Prop}{b:Bool}{i:Int}:dQ q (oV b i):=by induction b<;>trivial
theorem KR{q:Nat->Prop}(qs:List (Bool×Int)):dQ q (aU (hM qs)):=Fj λx hx=>by
 refine aL (dC.mp hx) λy Y gY=>?_;subst gY;exact Fm
theorem KU{q:Nat->Prop}(a:Nat)(qs:List (Bool×Int)):dQ q (aU (mX a qs)):=Fj λx hx=>by
 refine aL (dC.mp hx) λy Y fF=>?_;subst fF;exact bL trivial Fm trivial
def Vs(v:V):Prop:=∀k B,cZ (k+1) B v=.ok v
def mw(l:V):Prop:=pO l=true/\∀k B,bZ (cZ (k+3) B) l=.ok l
theorem KV{F:V->OV}{l m:V}(hl:pO l=true)(h:bZ F l=.ok l)(g:bZ F m=.ok m):bZ F (a_ l m)=.ok (a_ l m):=by
 induction l with
 |nil=>exact g
 |cons a r _ ih=>
  refine bJ (yv (show dN (F a) (bZ F r) V.cons=.ok (.cons a r) from h)) λx y h1 h2 e=>?_;injection e with e1 e2
  show dN (F a) (bZ F (a_ r m)) V.cons=_;refine ah h1 (ah (ih hl (by rw[h2,←e2])) (eV e1 ?_));rfl
 |_=>exact absurd hl nT
theorem mw.app{l x y z:V}{qs:List (Bool×Int)}{i:Int}(h:mw l)(hx:Vs x)(hy:Vs y):mw (a_ l (.cons (.tup (.cons x (.cons (.sym i) (.cons (.lst (aU (hM qs))) (.cons y .nil))))) .nil)):=by
 refine⟨tH h.1,λk B=>KV h.1 (h.2 k B) ?_⟩
 have h1:cZ (k+2) B (.lst (aU (hM qs)))=.ok (.lst (aU (hM qs))):=by
  show @OV.rec (λY=>OV) OV.no (λl=>OV.ok (.lst l)) (bZ (cZ (k+1) B) (aU (hM qs)))=_;rw[Fg _ (λb i=>by induction b<;>rfl)]
 show dN (gO (λY=>dN (cZ (k+2) B x) (dN (OV.ok (.sym i)) (dN (cZ (k+2) B (.lst (aU (hM qs)))) (dN (cZ (k+2) B y) (OV.ok .nil) V.cons) V.cons) V.cons) V.cons) V.tup .nil) (OV.ok .nil) V.cons=_;rw[hx,hy,h1];rfl
theorem OJ(h:Po I p s m gi dP lis)(hf:(I++J)[f]? =some (.inst 3 (hI num tx .none wd tk)))(oM:s.at'=.sym (ab a))(hz:aO gi≤1000)(ho:aO dP≤4000)(yq:aO lis≤4000)(hi:pO dP=true)(We:mw lis)(hl:qs.length≤4)(hL:dq N I)(hn:dQ (λi=>i<N) num)(htx:dQ (λi=>i<N) tx)(fn:Vs num)(ft:Vs tx):
  ∃bK szs' lis',ae (aq UT (KT (n+1)) (.cons (.loc p) (.cons (.loc f) (.cons (.lst (aU (hM qs))) .nil)))) (I++J) .none (bK++J)/\Po bK p (s.cnt (ab a) qs.length) m szs' (bif s.last then a_ dP (aU (mX a qs)) else dP) lis'/\bK.length=I.length/\aO szs'≤aO gi+1/\aO lis'≤aO lis+1/\mw lis'/\dq N bK:=by
 have aaf:∀{E:Env},a8 E aT=.ok (.loc p)->ae (dZ (cV aT) mz (KT (n+1)) E) (I++J) (.bool s.last) (I++J):=λ{E} he=>bg (aI he) h.app.hp rfl
 have aag:∀{τ:List O}{oo ll:V}(h':Po τ p s m gi oo ll)(hL':dq N τ)(tl:Env),∃bK szs',au (bI (r6 (pK 512301039406 [(7,117)] (cV aT) (aH (jE 0 (aH (cV kU) ck)) ck))) fm (KT (n+1)) (y8 p f (.lst (aU (hM qs))) tl)) (τ++J) (.dw (y8 p f (.lst (aU (hM qs))) tl)) (bK++J)/\Po bK p (s.cnt (ab a) qs.length) m szs' oo ll/\bK.length=τ.length/\aO szs'≤aO gi+1/\dq N bK:=λ{τ oo ll} h' hL' tl=>by
  refine Mh (GU (K:=KT n) (J:=J) (k:=qs.length) h' oM hz hL') λbK szs' r kf e1 e2 e3=>?_;refine(aba bK szs' (i9 (iq (σ₂:=τ++J) (f:=117) (aI rfl) h'.app.hp rfl (ai (fj (σ₂:=τ++J) (ai (aI rfl) aF) (v:=.int (ab qs.length)) ?_) aF) (λY Y Y=>rfl) ?_) dx) kf e1 e2 e3)
  ·have:=pA (I:=τ++J) (l:=aU (hM qs)) (cU (by rw[dD,hM,bx];exact bb (by assumption) (bW _ _)));rw[dD,hM,bx] at this;exact this
  ·refine ah (kt (g:=aq UU) (k:=n) rfl) ?_;exact r
 have h1:=aaf (E:=y8 p f (.lst (aU (hM qs))) .nil) rfl
 rcases zo s.last with hq|hq
 ·replace h1:=hq▸h1;have lp:=KO (K:=KT (n+1)) (f:=f) (l:=.lst (aU (hM qs))) (J:=J) h oM ho hi hl;refine aL (KJ (p:=p) (f:=f) (l:=.lst (aU (hM qs))) qs qs.length) λtl he Y=>?_;replace lp:=he▸lp;have h2:=h.lT (ocs':=a_ dP (aU (mX a qs)))
  have VW:(I.set m.oc (.list (a_ dP (aU (mX a qs))))++J)[f]? =some (.inst 3 (hI num tx .none wd tk)):=by
   refine eV (kQ (bO h.ho)) ?_;refine dX hf λe=>?_
   have:=h.app (J:=J) |>.ho;replace this:=hf▸(iL e▸this);cases this
  have hL2:dq N (I.set m.oc (.list (a_ dP (aU (mX a qs))))):=hL.set (show mI (λi=>i<N) (.list (a_ dP (aU (mX a qs)))) from wM (hL.get h.ho) (KU a qs))
  let tp:V:=.tup (.cons num (.cons (.sym (bw (ab a) 65536)) (.cons (.lst (aU (hM qs))) (.cons tx .nil))))
  have ht:ae (pV (aH (dZ (cV aJ) uU) (aH (et .mod (dZ (cV aT) aB) (cC (.int (.ofNat 65536)))) (aH (cV kU) (aH (dZ (cV aJ) bY) ck)))) (KT (n+1)) (y8 p f (.lst (aU (hM qs))) tl)) (I.set m.oc (.list (a_ dP (aU (mX a qs))))++J) tp (I.set m.oc (.list (a_ dP (aU (mX a qs))))++J):=by
   have h0:ae (dZ (cV aT) aB (KT (n+1)) (y8 p f (.lst (aU (hM qs))) tl)) (I.set m.oc (.list (a_ dP (aU (mX a qs))))++J) (.sym (ab a)) (I.set m.oc (.list (a_ dP (aU (mX a qs))))++J):=by refine eV oM ?_;exact bg (aI rfl) h2.app.hp rfl
   exact hH (ai (bg (aI rfl) VW rfl) (ai (cn h0 bV (ae.to ae.ok λB=>rfl)) (ai (aI rfl) (ai (bg (aI rfl) VW rfl) aF)))) rfl
  have ha:=mv (K:=KT (n+1)) (E:=y8 p f (.lst (aU (hM qs))) tl) (o:=dZ (dZ (cV aT) 1738104731) xK) (bg (bg (aI rfl) h2.app.hp rfl) (h2.app (J:=J)).hm rfl) h2.app.hl ht h2.app.hl (cU (by rw[fH];show aO lis+1≤_;exact dR (by assumption) (by decide)));replace ha:=(kQ (bO h2.hl))▸ha;have h3:=h2.ach (lis':=a_ lis (.cons tp .nil));have hL3:dq N ((I.set m.oc (.list (a_ dP (aU (mX a qs))))).set m.li (.list (a_ lis (.cons tp .nil)))):=hL2.set (show mI (λi=>i<N) (.list (a_ lis (.cons tp .nil))) from wM (hL.get h.hl) ⟨(vj hn trivial (KR qs) htx trivial),trivial⟩);refine Mh (aag h3 hL3 tl) λbK szs' r kf e1 e2 e3=>?_;refine(W2 bK szs' (a_ lis (.cons tp .nil)) (ae.eH (ns:=[aT,aJ,kU]) (ε₁:=y8 p f (.lst (aU (hM qs))) tl) rfl (rT h1 (wJ (fj (ai (aI rfl) aF) (v:=.G_ (.lst (aU (hM qs)))) (ae.to ae.ok λB=>rfl)) lp (i9 ha dx)) r)) ?_ ?_ e2 ?_ (We.app (z:=.nil) fn ft) e3)
  ·refine ah hq ?_;exact kf
  ·refine ah e1 ?_;simp
  ·rw[fH];exact bT _
 ·replace h1:=hq▸h1;refine Mh (aag h hL .nil) λbK szs' r kf e1 e2 e3=>?_;exact W2 bK szs' lis (ae.eH (ns:=[aT,aJ,kU]) (ε₁:=y8 p f (.lst (aU (hM qs))) .nil) rfl (bU h1 r)) (by refine ah hq ?_;exact kf) e1 e2 (fZ _) We e3
end
section
variable{K:Kc}{I σ₁ σ₂ J:List O}{v w x l sy i_ num tx gi dP lis wd tk:V}{n N t p f a i:Nat}{o:Ord}{mm:Nat->Int}{s:pG}{m:Am}{E:Env}{qs:List (Bool×Int)}{u:S}
theorem wN(hf:I[f]? =some (.inst 3 (hI num tx .none wd tk))):ae (aq NP K (.cons (.loc p) (.cons (.loc f) .nil))) I .none I:=
 ae.eH (ns:=[aT,aJ]) rfl (bU (bu (bg (aI rfl) hf rfl) bV (br.ok (b:=false))) dx)
theorem Dj(hf:I[f]? =some (.inst 3 (hI num tx .none (.ak u) tk)))(hu:sEq u [83,69,84] =true):ae (aq UY K (.cons (.loc f) .nil)) I (.bool false) I:=by
 refine ae.call (ns:=[aJ]) rfl (ef (oR (σ₁:=I) ?_ (iJ (bu (bg (aI rfl) hf rfl) bV (br.ok (b:=false))))));have h:br (fy .ne (.ak u) (.str [83,69,84])) I (pT (sEq u [83,69,84])) I:=J0;rw[hu] at h;exact bu (bg (aI rfl) hf rfl) bV h
theorem BC(h:I[i]? =some (.dict .nil)):br (fy .BO (.ak u) (.loc i)) I false I:=by
 refine(bA [] [] trivial (λbC o'=>?_));have e:fy .BO (.ak u) (.loc i) ⟨I,[] ++bC,o'⟩=inO (.ak u) (e_ I i) ⟨I,bC,o'⟩:=rfl;refine ah e (ah (bM h) ?_);rfl
theorem KZ{t:S}(h:ku u Bm=false)(ht:t∈Bm):br (fy .eq (.ak u) (.str t)) I false I:=we (aac h ht) wc
theorem GV(hm:∀i,0≤mm i/\mm i<256)(h:Po I p s m gi dP lis)(hf:(I++J)[f]? =some (.inst 3 (hI num tx .none (.ak o.w) (.loc t))))(Jt:(I++J)[t]? =some (.list (eP o.ops)))(oM:s.at'=.sym (ab a))(ha:a<65536)(Qd:mq mm a o)(hw:WfS (I++J))
  (hz:aO gi≤1000) (ho:aO dP≤4000) (yq:aO lis≤4000) (hi:pO dP=true) (We:mw lis) (hL:dq N I) (hn:dQ (λi=>i<N) num) (htx:dQ (λi=>i<N) tx) (fn:Vs num) (ft:Vs tx):
  ∃bK J' szs' lis' qs,ae (aq JR (KT (n+11)) (.cons (.loc p) (.cons (.loc f) .nil))) (I++J) .none (bK++J')/\qs.map iC=(cy o.many).map (oE mm a)/\Po bK p (s.cnt (ab a) o.many) m szs' (bif s.last then a_ dP (aU (mX a qs)) else dP) lis'/\bK.length=I.length/\aO szs'≤aO gi+1/\aO lis'≤aO lis+1/\mw lis'/\dq N bK:=by
 have hk:=Qd.known;simp only[wz,cK,iy] at hk;refine HK hk λY k2 Y Y k5 Y Y=>?_;clear hk;refine a6 (Di (n:=n) hm h.app.hp hf Jt oM ha Qd hw) λqs J1 r1 OF=>?_
 have Wc:qs.length=o.many:=by
  have:=congrArg nY OF
  simpa using this
 have VW:(I++(J++J1))[f]? =some (.inst 3 (hI num tx .none (.ak o.w) (.loc t))):=by rw[←bH];exact bq hf
 refine aa6 (OJ (n:=n+9) (J:=J++J1) (qs:=qs) h VW oM hz ho yq hi We (by refine ah Wc ?_;exact eB k5) hL hn htx fn ft) λbK szs' lis' r2 kf e1 e2 e3 e4 e5=>?_;rw[Wc] at kf;refine(abg bK (J++J1) szs' lis' qs ?_ OF kf e1 e2 e3 e4 e5)
 let E:Env:=.cons aT (.loc p) (.cons aJ (.loc f) (.cons d_ (.ak o.w) .nil))
 have tr:au (bI (B_ (bI (r6 (pK 2081976986123005367732 [(7,113)] (cV aT) (aH (cV aJ) ck))) (bI (r6 (pK 7758172 [(7,115)] (cV aT) (aH (cV aJ) (aH (pK 1968529765526081119183 [(7,118)] (cV aT) (aH (cV aJ) ck)) ck)))) fm))) fm (KT (n+11)) (.cons aT (.loc p) (.cons aJ (.loc f) (.cons d_ (.ak o.w) .nil)))) (I++J) (.dw (.cons aT (.loc p) (.cons aJ (.loc f) (.cons d_ (.ak o.w) .nil)))) (bK++(J++J1)):=by
  refine Kv (i9 (σ₁:=I++J) (iq (f:=113) (aI rfl) (h.app (J:=J)).hp rfl (ai (aI rfl) aF) (λY Y Y=>rfl) ?_) (i9 (iq (f:=115) (σ₁:=I++J) (σ₂:=I++(J++J1)) (aI rfl) (h.app (J:=J)).hp rfl (ai (aI rfl) (ai (iq (f:=118) (σ₁:=I++J) (σ₂:=I++J) (aI rfl) (h.app (J:=J)).hp rfl (ai (aI rfl) aF) (λY Y Y=>rfl) (v:=.lst (aU (hM qs))) ?_) aF)) (λY Y Y=>rfl) ?_) dx)) dx
  ·refine ah (kt (g:=aq NP) (k:=n+10) rfl) ?_;exact wN hf
  ·rw[kt (g:=aq UW) (k:=n+10) rfl,←bH];exact r1
  ·refine ah (kt (g:=aq UT) (k:=n+10) rfl) ?_;exact r2
 have hag:ae (u9 (gd .BO (cV d_) (cC (.tup (.cons (.str [83,69,84]) (.cons (.str [68,69,70,76]) (.cons (.str [61]) .nil)))))) (rZ 122 (aH (cV aJ) ck)) (KT (n+11)) (.cons aT (.loc p) (.cons aJ (.loc f) (.cons d_ (.ak o.w) .nil)))) (I++J) (.bool false) (I++J):=by
  have h2:=sJ (L:=[[68,69,70,76],[61]]) k2 (by decide)
  have hb:ku o.w [[83,69,84],[68,69,70,76],[61]] =sEq [83,69,84] o.w:=by
   show(sEq [83,69,84] o.w||ku o.w [[68,69,70,76],[61]])=_;rw[h2,nH]
  refine cBool (sEq [83,69,84] o.w) (λhq=>?_) (λhq=>?_)
  ·exact iJ (bu (aI rfl) bV (ky (L:=[[83,69,84],[68,69,70,76],[61]]) (hb.trans hq)))
  ·refine g_ (bu (aI rfl) bV (ky (L:=[[83,69,84],[68,69,70,76],[61]]) (hb.trans hq))) (eG (ai (aI rfl) aF) ?_);refine ah (kt (g:=aq UY) (k:=n+10) rfl) ?_;refine Dj hf ?_;rw[fP] at hq ⊢;refine ah (eq_of_beq hq) ?_;exact beq_self_eq_true _
 refine ae.eH (ns:=[aT,aJ]) (ε₁:=.cons aT (.loc p) (.cons aJ (.loc f) (.cons d_ (.ak o.w) .nil))) rfl (d5 (bg (aI rfl) hf rfl) ?_);exact kR (bu (aI rfl) bV (KZ k2 (by decide))) (kR hag (kR (bu (aI rfl) bV (KZ k2 (by decide))) (kR (bu (aI rfl) bV (KZ k2 (by decide))) tr dx) dx) dx) dx
end
section
variable{K:Kc}{I σ₁ σ₂ J:List O}{v w x l sy i_ num tx gi dP lis wd tk:V}{n N t p f a i:Nat}{o:Ord}{mm:Nat->Int}{s:pG}{m:Am}{E:Env}{qs:List (Bool×Int)}{u:S}{ops:List cX}
theorem pB{q q':Nat->Prop}(h:∀i,q i->q' i):∀{v:V},dQ q v->dQ q' v:=by
 intro v
 induction v with
 |loc i=>exact h i
 |tup l ih=>exact ih
 |lst l ih=>exact ih
 |wX l ih=>exact ih
 |xf c l ih=>exact ih
 |cons a r ih1 ih2=>exactλg=>⟨ih1 g.1,ih2 g.2⟩
 |kv k v r _ ih1 ih2=>exactλg=>⟨ih1 g.1,ih2 g.2⟩
 |fld m v r ih1 ih2=>exactλg=>⟨ih1 g.1,ih2 g.2⟩
 |_=>exactλY=>trivial
theorem sM{q q':Nat->Prop}(h:∀i,q i->q' i):∀{o:O},mI q o->mI q' o
 |.list _,g=>pB h g|.du _,g=>pB h g|.inst _ _,g=>pB h g|.dict _,g=>pB h g|.gone,_=>trivial
theorem Fo{q:Nat->Prop}{t:V}(h:dQ q t)(p:cX):dQ q (p.tk t):=by
 have one:∀{k:S}{v r:V},dQ q v->dQ q r->dQ q (.cons (dt k v) r):=λhv hr=>⟨(bL trivial hv trivial),hr⟩
 induction p with
 |nm k s=>exact one trivial h
 |me s=>exact one trivial (one trivial (one trivial h))
 |nu b i=>exact one (by induction b<;>trivial) h
 |ad i=>exact one trivial (one trivial (one trivial h))
 |ix s d=>exact one trivial (one trivial (one trivial (one trivial (one trivial h))))
theorem xG{q:Nat->Prop}:∀l:List cX,dQ q (jm l)| [] =>trivial|o::l=>⟨(bL trivial trivial trivial),Fo (xG l) o⟩
theorem Dk{q:Nat->Prop}:∀l:List cX,dQ q (eP l)| [] =>trivial|o::l=>Fo (xG l) o
theorem K3(t:V)(p:cX):aO (p.tk t)≤5+aO t:=by
 induction p with
 |nm k s=>show aO t+1≤_;omega
 |me s=>show aO t+1+1+1≤_;omega
 |nu b i=>show aO t+1≤_;omega
 |ad i=>show aO t+1+1+1≤_;omega
 |ix s d=>show aO t+1+1+1+1+1≤_;lia
theorem BD:∀l:List cX,aO (jm l)≤6 * l.length
 | [] =>bT _
 |o::l=>by
  have h1:=K3 (jm l) o;have h2:=BD l;show aO (o.tk (jm l))+1≤6 * (l.length+1);omega
theorem sN:∀l:List cX,aO (eP l)≤6 * l.length
 | [] =>bT _
 |o::l=>by
  have h1:=K3 (jm l) o;have h2:=BD l;show aO (o.tk (jm l))≤6 * (l.length+1);omega
theorem K4{o:Ord}(h:o.fit):R40 (.cons (.ak (32::o.txt)) .nil) (.lst (.cons (dt eN (.ak o.w)) (eP o.ops))):=by
 refine Mj (C4 (s:=32::o.txt) (by have:=(yW h).2;refine ah ey ?_;exact dR (by assumption) (by decide)) (N4 (a:=[32]) (N5 rfl) (yW h).1) (N3 h)) λl v v' bK h1 h2 h3 h4 h5=>?_;exact ji l v v' bK h1 h2 h3 h4 (λX hp Z M u q=>yQ (cP (wk (cP jc.refl (cP le_str gF.refl))) gF.refl) _ _ _ _ _ (h5 _ _ _ _ _ q))
theorem Fp{r:S}{o:Ord}:ae (aq Zy (KT (n+1)) (.cons (.ak (32::r)) (.cons (.lst (.cons (dt eN w) (eP ops))) .nil))) I (.bool false) I∨¬ops.length≤4:=by
 by_cases h:ops.length≤4
 ·refine .inl (GK (λhn=>?_) (by have:=sN ops;show aO (eP ops)+1≤_;omega))
  induction ops with
  |nil=>exact absurd rfl hn
  |cons p l=>
   have Vi:∀{l:V},KT (n+1) 41 l=aq Zw (KT n) l:=λ{l}=>by exact ah (kt (g:=aq Zw) (k:=n) rfl) rfl
   induction p with
   |nm k s=>exact⟨_,_,rfl,by refine ah Vi ?_;exact Fd (.inl rfl)⟩
   |nu b i=>exact⟨_,_,rfl,by refine ah Vi ?_;exact Fd (.inr rfl)⟩
   |me s=>exact⟨_,_,rfl,by refine ah Vi ?_;exact wL⟩
   |ad i=>exact⟨_,_,rfl,by refine ah Vi ?_;exact wL⟩
   |ix s d=>exact⟨_,_,rfl,by refine ah Vi ?_;exact wL⟩
 ·exact .inr h
noncomputable abbrev ni(num:V)(x:S):V:=.xf 3 (hI num (.ak x) .none .none (.lst .nil))
noncomputable def pG.row(s:pG):pG:={s with rl:=bP s.rl 1}
theorem K5{rows atv nst:V}(hm:∀i,0≤mm i/\mm i<256)(h:Po I p s m gi dP lis)(oM:s.at'=.sym (ab a))(ha:a<65536)(Qd:mq mm a o)(hL:dq I.length I)(hrl:0<s.rl)
  (hz:aO gi≤1000) (ho:aO dP≤4000) (yq:aO lis≤4000) (hi:pO dP=true) (We:mw lis) (KI:∀q,dQ q num) (fn:Vs num) (K6:∃k,atv=.int k):
  ∃bK szs' lis' qs,ae (KT (n+13) 108 (.cons (.loc p) (.cons (ni num (32::o.txt)) (.cons rows (.cons atv (.cons nst .nil)))))) I atv bK/\qs.map iC=(cy o.many).map (oE mm a)/\Po bK p (s.row.cnt (ab a) o.many) m szs' (bif s.last then a_ dP (aU (mX a qs)) else dP) lis'/\bK.length=I.length/\aO szs'≤aO gi+1/\aO lis'≤aO lis+1/\mw lis'/\dq bK.length bK:=by
 have hk:=Qd.known;simp only[wz,cK,iy] at hk;refine HK hk λY k2 k3 Y k5 Y Y=>?_;clear hk;have acj:o.ops.length≤4:=eB k3
 let τ:List O:=I.set p (.inst 7 s.row.val)
 have GW:τ.length=I.length:=by simp[τ]
 have K7:Po τ p s.row m gi dP lis:=h.GS (ib rfl rfl rfl rfl);have K8:mI (λi=>i<I.length) (.inst 7 s.val):=hL.get h.hp;have aah:dq I.length τ:=hL.set (show mI (λi=>i<I.length) (.inst 7 s.row.val) from K8)
 let J:List O:=[.inst 3 (hI num (.ak (32::o.txt)) .none (.ak o.w) (.loc (τ.length+2))),.list .nil,.list (eP o.ops)]
 have hw:WfS (τ++J):=λob ZZ=>by
  have hlen:(τ++J).length=I.length+3:=by refine ah dA (ah GW ?_);rfl
  refine ah hlen ?_
  rcases bp.mp ZZ with q|q
  ·exact sM (λi hi=>qH 3 hi) (aah ob q)
  ·simp only[J,aR,fw,or_false] at q
   rcases q with rfl|rfl|rfl
   ·exact⟨KI _,trivial,trivial,trivial,by show τ.length+2<_;refine ah GW ?_;exact bT _,trivial⟩
   ·trivial
   ·exact Dk _
 refine aa9 (GV (n:=n) (J:=J) (f:=τ.length) (t:=τ.length+2) (N:=I.length) hm K7 bR (by simp[J]) oM ha Qd hw hz ho yq hi We aah (KI _) trivial fn (λY Y=>rfl)) λbK J' szs' lis' qs r OF kf e1 e2 e3 e4 e5=>?_;refine⟨bK,szs',lis',qs,?_,OF,kf,e1.trans GW,e2,e3,e4,by refine ah e1 (ah GW ?_);exact e5⟩;refine ah (kt (g:=Qp (aq Gm)) (k:=n+12) rfl) ?_
 have run:ae (aq Gm (KT (n+12)) (.cons (.loc p) (.cons (ni num (32::o.txt)) (.cons rows (.cons atv (.cons nst .nil)))))) I atv (bK++J'):=by
  refine ae.call (ns:=[aT,aJ,gB,aB,uV]) rfl ?_;refine y6 (u:=.int s.rl) (v:=.int (bP s.rl 1)) (aI rfl) h.hp rfl bV (λB=>rfl) rfl ?_;have ep:hP s.val BY (.int (bP s.rl 1))=s.row.val:=rfl;refine ah ep ?_;have h0:gI (bP s.rl 1) 0=false:=by rw[bj];exact decide_eq_false (by show¬(s.rl - 1<0);omega)
  refine bU (σ₁:=τ) (bu (v:=.int (bP s.rl 1)) (bg (aI rfl) K7.hp rfl) bV (we h0 br.ok)) ?_;refine d5 (v:=.loc τ.length) (σ₁:=τ++[.inst 3 (hI num (.ak (32::o.txt)) .none .none (.loc (τ.length+1))),.list .nil]) (xE (σ₁:=τ) (ai (px (aI rfl) rfl) (ai (px (aI rfl) rfl) aF)) ?_) ?_
  ·refine ah (kt (g:=aq Zx) (k:=n+11) rfl) ?_;exact wK
  have hrd:ae (KT (n+12) 58 (.cons (.loc τ.length) .nil)) (τ++[.inst 3 (hI num (.ak (32::o.txt)) .none .none (.loc (τ.length+1))),.list .nil]) .none (τ++J):=by
   refine ah (kt (g:=aq f58) (k:=n+11) rfl) ?_
   have Z9:∀{bK:List O},ae (KT (n+11) 40 (.cons (.ak (32::o.txt)) .nil)) bK (.lst (.cons (dt eN (.ak o.w)) (eP o.ops))) bK:=λ{bK}=>by
    refine ah (kt (g:=gm R40) (k:=n+10) rfl) ?_;exact eO (K4 Qd.fit)
   have Z_:∀{bK:List O},ae (KT (n+11) 57 (.cons (.ak (32::o.txt)) (.cons (.lst (.cons (dt eN (.ak o.w)) (eP o.ops))) .nil))) bK (.bool false) bK:=λ{bK}=>by
    refine ah (kt (g:=aq Zy) (k:=n+10) rfl) ?_
    rcases Fp (n:=n+9) (I:=bK) (w:=.ak o.w) (ops:=o.ops) (r:=o.txt) (o:=o) with q|q
    ·exact q
    ·exact absurd acj q
   have:=By (K:=KT (n+11)) (n:=τ.length) (I:=τ++[.inst 3 (hI num (.ak (32::o.txt)) .none .none (.loc (τ.length+1))),.list .nil]) bR Z9 Z_ (by have:=sN o.ops;show aO (eP o.ops)+1≤_;lia);rw[cH,bH] at this;have el:(τ++[O.inst 3 (hI num (.ak (32::o.txt)) .none .none (.loc (τ.length+1))),.list .nil]).length=τ.length+2:=by simp
   rw[el] at this;exact this
  refine i9 (eG (ai (aI rfl) aF) hrd) ?_;have OK:∀{E:Env},a8 E 460035211549=.ok (.loc τ.length)->ae (dZ (cV 460035211549) d_ (KT (n+12)) E) (τ++J) (.ak o.w) (τ++J):=λ{E} he=>bg (aI he) bR rfl;refine bU (bu (OK rfl) bV (KZ k2 (by decide))) ?_;refine bU (bu (OK rfl) bV (KZ k2 (by decide))) ?_;refine bU (bu (OK rfl) (hH (ai bV (ai bV (ai bV aF))) rfl) (ky (L:=[[69,76,83,69],[69,78,68,73,70],[69,78,68,77]]) (sJ k2 (by decide)))) ?_;refine kR (bu (OK rfl) (bg (aI rfl) (K7.app (J:=J)).hp rfl) (BC (K7.app (J:=J)).hma)) (i9 (iq (f:=114) (aI rfl) (K7.app (J:=J)).hp rfl (ai (aI rfl) aF) (λY Y Y=>rfl) ?_) dx) (ef (aI rfl));refine ah (kt (g:=aq JR) (k:=n+11) rfl) ?_;exact r
 refine bc K6 λk i5=>?_;clear K6;subst i5;exact Df run (e1.trans GW) rfl e5
end
noncomputable def eX(a:Nat):Ord:=⟨[79,82,71],[.nu false (ab a)],0⟩
noncomputable def pG.zk(s:pG)(a:Nat):pG:={s with at':=.sym (ab a)}
section
variable{K:Kc}{I σ₁ σ₂ J:List O}{v w x l sy i_ num tx gi dP lis wd tk:V}{n N t p f a i:Nat}{o:Ord}{mm:Nat->Int}{s:pG}{m:Am}{E:Env}{qs:List (Bool×Int)}{u:S}{ops:List cX}
theorem Fq(ha:a<65536):(eX a).fit:=⟨rfl,by show 1≤4;exact lN _,λp hp=>by
 refine ah (aV.mp hp) ?_;exact⟨b9 a,by show(a:Int)<65536;exact gT.mpr (by assumption)⟩⟩
theorem GX(h:Po I p s m gi dP lis)(ht:(I++J)[t]? =some (.list (eP (eX a).ops))):ae (aq US (KT (n+6)) (.cons (.loc p) (.cons (.loc t) .nil))) (I++J) (.sym (ab a)) (I++J):=by
 have Ox:ae (KT (n+6) 50 (.cons (.loc t) .nil)) (I++J) (Bs (oV false (ab a))) (I++J):=by
  refine ah (kt (g:=rE R50) (k:=n+5) rfl) ?_;refine oS (l':=.cons (.lst (eP (eX a).ops)) .nil) ?_ (yZ (Z4 false (ab a)) (mu (gH _ 5 (eX a).ops)));show dN (cZ 8 ⟨_,[],[]⟩ (.loc t)) (OV.ok .nil) V.cons=_;have e1:=jJ (k:=7) (I:=I++J) ht (gH _ 5 (eX a).ops);refine ah e1 ?_;rfl
 have h54:∀x y:V,ae (KT (n+6) 54 (.cons (Bs (oV false (ab a))) (.cons x (.cons y .nil)))) (I++J) (.sym (ab a)) (I++J):=λx y=>⟨[],[],trivial,λbC o'=>by kernel_rfl⟩;exact ae.call (ns:=[aT,rU]) rfl (ef (eG (ai (eG (ai (aI rfl) aF) Ox) (ai (bg (aI rfl) h.app.hp rfl) (ai (bg (aI rfl) h.app.hp rfl) aF))) (h54 _ _)))
theorem OM{u t:S}{q:Bool}(h:sEq u t=q):br (fy .eq (.ak u) (.str t)) I q I:=we h wc
theorem GY(h:Po I p s m gi dP lis)(hf:(I++J)[f]? =some (.inst 3 (hI num tx .none (.ak (eX a).w) (.loc t))))(Jt:(I++J)[t]? =some (.list (eP (eX a).ops))):
  ae (aq JR (KT (n+7)) (.cons (.loc p) (.cons (.loc f) .nil))) (I++J) .none (I.set p (.inst 7 (s.zk a).val)++J):=by
 have hag:ae (u9 (gd .BO (cV d_) (cC (.tup (.cons (.str [83,69,84]) (.cons (.str [68,69,70,76]) (.cons (.str [61]) .nil)))))) (rZ 122 (aH (cV aJ) ck)) (KT (n+7)) (.cons aT (.loc p) (.cons aJ (.loc f) (.cons d_ (.ak (eX a).w) .nil)))) (I++J) (.bool false) (I++J):=
  iJ (bu (aI rfl) bV (ky (L:=[[83,69,84],[68,69,70,76],[61]]) rfl))
 have hfp:f≠p:=λe=>by have:=(h.app (J:=J)).hp;replace this:=hf▸(iL e▸this);cases this
 refine ae.eH (ns:=[aT,aJ]) (ε₁:=.cons aT (.loc p) (.cons aJ (.loc f) (.cons d_ (.ak (eX a).w) .nil))) rfl (d5 (bg (aI rfl) hf rfl) ?_);refine kR (bu (aI rfl) bV (OM (q:=false) rfl)) (kR hag (rT (bu (aI rfl) bV (OM (q:=true) rfl)) (dH (v:=.sym (ab a)) (σ₁:=I++J) (iq (f:=106) (aI rfl) (h.app (J:=J)).hp rfl (ai (bg (aI rfl) hf rfl) aF) (λY Y Y=>rfl) ?_) (aI rfl) (h.app (J:=J)).hp rfl (i9 (σ₁:=I.set p (.inst 7 (s.zk a).val)++J) ?_ dx)) dx) dx) dx
 ·refine ah (kt (g:=aq US) (k:=n+6) rfl) ?_;exact GX h Jt
 ·have ep:hP s.val aB (.sym (ab a))=(s.zk a).val:=rfl;refine ah ep (ah (kQ (bO h.hp)) ?_);have h2:=(h.GS (s':=s.zk a) (ib rfl rfl rfl rfl)).app (J:=J);refine iq (f:=113) (aI rfl) h2.hp rfl (ai (aI rfl) aF) (λY Y Y=>rfl) ?_;refine ah (kt (g:=aq NP) (k:=n+6) rfl) ?_;refine wN (num:=num) (tx:=tx) (wd:=.ak (eX a).w) (tk:=.loc t) ?_;refine eV (kQ (bO h.hp)) ?_;exact dX hf hfp
theorem K9{rows atv nst:V}(h:Po I p s m gi dP lis)(ha:a<65536)(hL:dq I.length I)(hrl:0<s.rl)(KI:∀q,dQ q num)(K6:∃k,atv=.int k)(oM:∀q,dQ q s.at'):
  ae (KT (n+13) 108 (.cons (.loc p) (.cons (ni num (32::(eX a).txt)) (.cons rows (.cons atv (.cons nst .nil)))))) I atv (I.set p (.inst 7 (s.row.zk a).val))/\dq I.length (I.set p (.inst 7 (s.row.zk a).val)):=by
 let τ:List O:=I.set p (.inst 7 s.row.val)
 have GW:τ.length=I.length:=by simp[τ]
 have K7:Po τ p s.row m gi dP lis:=h.GS (ib rfl rfl rfl rfl);have K8:mI (λi=>i<I.length) (.inst 7 s.val):=hL.get h.hp;have hs1:mI (λi=>i<I.length) (.inst 7 (s.row.zk a).val):=(WZ K8.1 K8.2.1 K8.2.2.1 K8.2.2.2.1 K8.2.2.2.2.1 K8.2.2.2.2.2.1 K8.2.2.2.2.2.2.1 K8.2.2.2.2.2.2.2.1 trivial K8.2.2.2.2.2.2.2.2.2);have hL2:dq I.length (I.set p (.inst 7 (s.row.zk a).val)):=hL.set hs1;refine⟨?_,hL2⟩
 let J:List O:=[.inst 3 (hI num (.ak (32::(eX a).txt)) .none (.ak (eX a).w) (.loc (τ.length+2))),.list .nil,.list (eP (eX a).ops)]
 have r:=GY (n:=n+4) (a:=a) (J:=J) (f:=τ.length) (t:=τ.length+2) (num:=num) (tx:=.ak (32::(eX a).txt)) K7 bR (by simp[J]);have ack:τ.set p (.inst 7 (s.row.zk a).val)=I.set p (.inst 7 (s.row.zk a).val):=by simp[τ]
 replace r:=ack▸r;refine ah (kt (g:=Qp (aq Gm)) (k:=n+12) rfl) ?_
 have run:ae (aq Gm (KT (n+12)) (.cons (.loc p) (.cons (ni num (32::(eX a).txt)) (.cons rows (.cons atv (.cons nst .nil)))))) I atv (I.set p (.inst 7 (s.row.zk a).val)++J):=by
  refine ae.call (ns:=[aT,aJ,gB,aB,uV]) rfl ?_;refine y6 (u:=.int s.rl) (v:=.int (bP s.rl 1)) (aI rfl) h.hp rfl bV (λB=>rfl) rfl ?_;have ep:hP s.val BY (.int (bP s.rl 1))=s.row.val:=rfl;refine ah ep ?_;have h0:gI (bP s.rl 1) 0=false:=by rw[bj];exact decide_eq_false (by show¬(s.rl - 1<0);lia)
  refine bU (σ₁:=τ) (bu (v:=.int (bP s.rl 1)) (bg (aI rfl) K7.hp rfl) bV (we h0 br.ok)) ?_;refine d5 (v:=.loc τ.length) (σ₁:=τ++[.inst 3 (hI num (.ak (32::(eX a).txt)) .none .none (.loc (τ.length+1))),.list .nil]) (xE (σ₁:=τ) (ai (px (aI rfl) rfl) (ai (px (aI rfl) rfl) aF)) ?_) ?_
  ·refine ah (kt (g:=aq Zx) (k:=n+11) rfl) ?_;exact wK
  have hrd:ae (KT (n+12) 58 (.cons (.loc τ.length) .nil)) (τ++[.inst 3 (hI num (.ak (32::(eX a).txt)) .none .none (.loc (τ.length+1))),.list .nil]) .none (τ++J):=by
   refine ah (kt (g:=aq f58) (k:=n+11) rfl) ?_
   have Z9:∀{bK:List O},ae (KT (n+11) 40 (.cons (.ak (32::(eX a).txt)) .nil)) bK (.lst (.cons (dt eN (.ak (eX a).w)) (eP (eX a).ops))) bK:=λ{bK}=>by
    refine ah (kt (g:=gm R40) (k:=n+10) rfl) ?_;exact eO (K4 (Fq ha))
   have Z_:∀{bK:List O},ae (KT (n+11) 57 (.cons (.ak (32::(eX a).txt)) (.cons (.lst (.cons (dt eN (.ak (eX a).w)) (eP (eX a).ops))) .nil))) bK (.bool false) bK:=λ{bK}=>by
    refine ah (kt (g:=aq Zy) (k:=n+10) rfl) ?_
    rcases Fp (n:=n+9) (I:=bK) (w:=.ak (eX a).w) (ops:=(eX a).ops) (r:=(eX a).txt) (o:=eX a) with q|q
    ·exact q
    ·exact absurd (by show 1≤4;exact lN _) q
   have:=By (K:=KT (n+11)) (n:=τ.length) (I:=τ++[.inst 3 (hI num (.ak (32::(eX a).txt)) .none .none (.loc (τ.length+1))),.list .nil]) bR Z9 Z_ (by have:=sN (eX a).ops;have e:(eX a).ops.length=1:=rfl;replace this:=e▸this;show aO (eP (eX a).ops)+1≤_;exact bW _ _);rw[cH,bH] at this;have el:(τ++[O.inst 3 (hI num (.ak (32::(eX a).txt)) .none .none (.loc (τ.length+1))),.list .nil]).length=τ.length+2:=by simp
   replace this:=el▸this;exact this
  refine i9 (eG (ai (aI rfl) aF) hrd) ?_;have OK:∀{E:Env},a8 E 460035211549=.ok (.loc τ.length)->ae (dZ (cV 460035211549) d_ (KT (n+12)) E) (τ++J) (.ak (eX a).w) (τ++J):=λ{E} he=>bg (aI he) bR rfl;refine bU (bu (OK rfl) bV (OM rfl)) ?_;refine bU (bu (OK rfl) bV (OM rfl)) ?_;refine bU (bu (OK rfl) (hH (ai bV (ai bV (ai bV aF))) rfl) (ky (L:=[[69,76,83,69],[69,78,68,73,70],[69,78,68,77]]) rfl)) ?_;refine kR (bu (OK rfl) (bg (aI rfl) (K7.app (J:=J)).hp rfl) (BC (K7.app (J:=J)).hma)) (i9 (iq (f:=114) (aI rfl) (K7.app (J:=J)).hp rfl (ai (aI rfl) aF) (λY Y Y=>rfl) ?_) dx) (ef (aI rfl));refine ah (kt (g:=aq JR) (k:=n+11) rfl) ?_;exact r
 refine bc K6 λk i7=>?_;clear K6;subst i7;exact Df run (by simp) rfl hL2
end
noncomputable section
noncomputable def iu(mm:Nat->Int):Nat->List Ord->Prop
 |_,[] =>True
 |a,o::os=>mq mm a o/\a<65536/\iu mm (a+o.many) os
noncomputable def fL:List Ord->Nat| [] =>0|o::os=>o.many+fL os
noncomputable def ju(dP:V)(vals:List Int):Prop:=∃xs:List (Int×Bool×Int),dP=aU (xs.map λx=>.tup (.cons (.sym x.1) (.cons (oV x.2.1 x.2.2) .nil)))/\xs.map (λx=>x.2.2)=vals
noncomputable abbrev Vt:C:=u9 (gd .lt (cV aB) (jE 0 (aH (cV gB) ck))) (xR (dZ (cV aT) 7508670789666489667))
noncomputable abbrev Vu:CS:=bI (w1 (gK [aJ,aB]) (pV (aH (h_ (cV gB) (cV aB)) (aH (et .add (cV aB) (cC (.int (.ofNat 1)))) ck)))) (bI (B_ (bI (m_ aB (pK 1924896192 [(7,108)] (cV aT) (aH (cV aJ) (aH (cV gB) (aH (cV aB) (aH (cV uV) ck)))))) fm)) fm)
noncomputable abbrev K_(p:Nat)(rows nst:V)(j:Nat)(e:Env):Env:=.cons aT (.loc p) (.cons gB rows (.cons uV nst (.cons aB (.int (ab j)) e)))
end
section
variable{K:Kc}{I σ₁ σ₂ J:List O}{v w x l sy num nst gi dP lis:V}{n N t p f a i j:Nat}{o:Ord}{mm:Nat->Int}{s:pG}{m:Am}{E:Env}{rs:List V}{vals:List Int}
theorem ju.app{qs:List (Bool×Int)}(h:ju dP vals):ju (a_ dP (aU (mX a qs))) (vals++qs.map iC):=by
 refine aL h λxs i7 gY=>?_;clear h;subst i7;subst gY;refine(aQ (xs++qs.zipIdx.map λx=>(bw (aS (ab a) (ab x.2)) 65536,x.1.1,x.1.2)) ?_ ?_)
 ·rw[rR,mX,gq,fM];rfl
 ·refine ah gq (ah fM ?_)
  congr 1
  have:(λx:(Bool×Int)×Nat=>x.1.2)=(λy:Bool×Int=>y.2) ∘ Prod.fst:=rfl;show qs.zipIdx.map (λx=>x.1.2)=_;rw[this,←fM,List.zipIdx_map_fst]
theorem ju.pO(h:ju dP vals):pO dP=true:=by refine aL h λxs mf Y=>?_;clear h;subst mf;exact tL _
theorem ON(h:rs[j]? =some x)(hj:j<10000):ae (qX (.lst (aU rs)) (.int (ab j))) I x I:=by
 have hl:low (ab j)=true:=wq (by show(-1000:Int)< (j:Int);omega) (by show(j:Int)<100000;omega);refine ae.to ae.ok λB=>?_;have e:qX (.lst (aU rs)) (.int (ab j)) B= @Bool.rec (λY=>RE) RE.no (ze (eW (aU rs) j) B) (low (ab j)):=rfl;rw[e,hl,mV,h];rfl
theorem xH{tl:Env}{row:V}(ht:tl=.nil∨∃y,tl=.cons aJ y .nil)(y9:rs[j]? =some row)(hj:j<500)(hp:I[p]? =some (.inst 7 s.val))
  (aai:ae (K 108 (.cons (.loc p) (.cons row (.cons (.lst (aU rs)) (.cons (.int (ab (j+1))) (.cons nst .nil)))))) I (.int (ab (j+1))) σ₁):
  au (Vu K (K_ p (.lst (aU rs)) nst j tl)) I (.dw (K_ p (.lst (aU rs)) nst (j+1) (.cons aJ row .nil))) σ₁:=by
 have hl:a8 (K_ p (.lst (aU rs)) nst j tl) aB=.ok (.int (ab j)):=rfl
 have hun:∀h o,gK [aJ,aB] (.tup (.cons row (.cons (.int (ab (j+1))) .nil))) (K_ p (.lst (aU rs)) nst j tl) ⟨I,h,o⟩=.ok (K_ p (.lst (aU rs)) nst (j+1) (.cons aJ row .nil)):=λh o=>by
  rcases ht with rfl|⟨y,rfl⟩<;>rfl
 refine kr (σ₁:=I) (hH (ai (fi (aI rfl) (aI rfl) (ON y9 (by omega))) (ai (cn (aI rfl) bV (ae.to (v:=.int (ab (j+1))) ae.ok λB=>rfl)) aF)) rfl) hun ?_;exact Kv (d5 (iq (f:=108) (aI rfl) hp rfl (ai (aI rfl) (ai (aI rfl) (ai (aI rfl) (ai (aI rfl) aF)))) (λY Y Y=>rfl) aai) dx) dx
theorem wO{tl:Env}(hr:rs.length≤500)(hp:I[p]? =some (.inst 7 s.val)):ae (Vt K (K_ p (.lst (aU rs)) nst j tl)) I (.bool (decide (j<rs.length))) I:=by
 have h1:ae (gd .lt (cV aB) (jE 0 (aH (cV gB) ck)) K (K_ p (.lst (aU rs)) nst j tl)) I (.bool (decide (j<rs.length))) I:=by
  refine bu (aI rfl) (fj (ai (aI rfl) aF) (pA (cU (by rw[dD];omega)))) ?_;have e:decide (j<rs.length)=gI (ab j) (ab (aO (aU rs))):=by rw[bj,dD];exact decide_eq_decide.mpr gR.symm
  refine ah e ?_;exact br.ok
 refine cW (decide (j<rs.length)) (λhq=>?_) (λhq=>?_);rotate_left
 ·rw[hq] at h1;exact g_ h1 (EV (q:=false) (bg (aI rfl) hp rfl))
 ·rw[hq] at h1;exact iJ h1
noncomputable def rowsOf:Nat->List Ord->List V|_,[] =>[] |j,o::os=>ni (.int (ab (j+1))) (32::o.txt)::rowsOf (j+1) os
theorem La(a k:Nat):(cy k).map (oE mm a)=(e6 a k).map λi=>mm (i % 256):=by
 refine ah t9 ?_
 have:∀(k j:Nat),(e6 j k).map (oE mm a)=(e6 (a+j) k).map λi=>mm (i % 256):=by
  intro k
  induction k with
  |zero=>intro j;rfl
  |succ k ih=>
   intro j;refine ah lG (ah lG (ah dB (ah dB (ah (ih (j+1)) ?_))))
   rfl
 exact this k 0
theorem BE(hm:∀i,0≤mm i/\mm i<256):∀(os:List Ord)(a j n':Nat)(I:List O)(s:pG)(gi dP lis:V)(vals:List Int)(rs:List V)(tl:Env),iu mm a os->Po I p s m gi dP lis->s.at'=.sym (ab a)->dq I.length I->(os.length:Int)<s.rl->
  aO gi+os.length≤1000->aO dP+4 * os.length≤4000->aO lis+os.length≤4000->ju dP vals->mw lis->(tl=.nil∨∃y,tl=.cons aJ y .nil)->rs.drop j=rowsOf j os->rs.length=j+os.length->rs.length≤400->os.length<n'->
  ∃bK szs' ocs' lis' xF s',au (lV Vt Vu (KT (n+14)) n' (K_ p (.lst (aU rs)) nst j tl)) I (.dw (K_ p (.lst (aU rs)) nst rs.length xF)) bK/\Po bK p s' m szs' ocs' lis'/\ju ocs' (bif s.last then vals++(e6 a (fL os)).map (λi=>mm (i % 256)) else vals)/\bK.length=I.length/\dq bK.length bK/\mw lis'/\aO szs'≤aO gi+os.length:=by
 intro zr
 induction zr with
 |nil=>
  exact @λa j n' I s gi dP lis vals rs tl _ Eo oM hL hrl h1 h2 h3 KQ yq ht hrs hlen hle hn=>by
   obtain⟨k,rfl⟩:∃k,n'=k+1:=⟨n' - 1,by have:(0:Nat)<n':=hn;omega⟩;have hj:rs.length=j:=hlen;refine(abh I gi dP lis tl s ?_ Eo ?_ rfl hL yq (bT _))
   ·have t:=wO (K:=KT (n+14)) (nst:=nst) (j:=j) (tl:=tl) (rs:=rs) (by omega) Eo.hp;rw[hj,decide_eq_false (jW j)] at t;refine ah hj ?_;exact au.yD (br.qW t)
   ·show ju dP (bif s.last then vals++[] else vals);rw[cM];cases s.last<;>exact KQ
 |cons o os bN=>
  exact @λa j n' I s gi dP lis vals rs tl sY Eo oM hL hrl h1 h2 h3 KQ yq ht hrs hlen hle hn=>by
   obtain⟨k,rfl⟩:∃k,n'=k+1:=⟨n' - 1,by have:0<n':=dR (fN _) hn;omega⟩;refine c_ sY λho ha sY=>?_;rw[ey] at h1 h2 h3 hlen hn hrl;have hk:=ho.known;simp only[wz,cK] at hk;have hm4:=eB hk.2.2.2.2.1;have hjl:j<rs.length:=by omega
   have y9:rs[j]? =some (ni (.int (ab (j+1))) (32::o.txt)):=by
    have:(rs.drop j)[0]? =some (ni (.int (ab (j+1))) (32::o.txt)):=by refine ah hrs ?_;rfl
    rwa [List.getElem?_drop,Nat.add_zero] at this
   have aaj:rs.drop (j+1)=rowsOf (j+1) os:=by
    have:(rs.drop j).drop 1=rowsOf (j+1) os:=by refine ah hrs ?_;rfl
    rwa [List.drop_drop] at this
   refine aa7 (K5 (n:=n+1) (rows:=.lst (aU rs)) (atv:=.int (ab (j+1))) (nst:=nst) (num:=.int (ab (j+1))) hm Eo oM ha ho hL (by omega) (by omega) (by omega) (by omega) KQ.pO yq (λY=>trivial) (λY Y=>rfl) ⟨_,rfl⟩) λσ1 acm acn qs r1 OF aco e1 e2 e3 e4 e5=>?_;have Wc:qs.length=o.many:=by have:=congrArg nY OF;simpa using this
   have acp:ju (bif s.last then a_ dP (aU (mX a qs)) else dP) (bif s.last then vals++qs.map iC else vals):=by cases s.last;exact KQ;exact KQ.app
   have acK:aO (bif s.last then a_ dP (aU (mX a qs)) else dP)≤aO dP+4:=by
    cases s.last
    ·exact iR _ _
    ·show aO (a_ _ _)≤_;rw[fH,dD,mX,bx,List.length_zipIdx,Wc];lia
   have acq:(s.row.cnt (ab a) o.many).at'=.sym (ab (a+o.many)):=rfl;have acr:(s.row.cnt (ab a) o.many).rl=s.rl - 1:=rfl;refine WW (bN (a+o.many) (j+1) k σ1 (s.row.cnt (ab a) o.many) acm _ acn _ rs (.cons aJ (ni (.int (ab (j+1))) (32::o.txt)) .nil) sY aco acq e5 (by refine ah acr ?_;omega) (by lia) (by omega) (by lia) acp e4 (.inr ⟨_,rfl⟩) aaj (by lia) hle (by lia)) λbK szs' ocs' lis' xF s' r2 f1 f2 f3 f4 f5 f6=>?_;refine⟨bK,szs',ocs',lis',xF,s',?_,f1,?_,f3.trans e1,f4,f5,by refine ah ey ?_;lia⟩
   ·have t:=wO (K:=KT (n+14)) (nst:=nst) (j:=j) (tl:=tl) (rs:=rs) (by omega) Eo.hp;rw[decide_eq_true hjl] at t;refine au.wa (br.qW t) (xH ht y9 (by lia) Eo.hp ?_) r2;exact r1
   ·have LP:(s.row.cnt (ab a) o.many).last=s.last:=rfl;rw[LP] at f2;refine cW (s.last) (λhq=>?_) (λhq=>?_)
    ·rw[hq] at f2;exact f2
    ·rw[hq] at f2
     have e:vals++(e6 a (fL (o::os))).map (λi=>mm (i % 256))=(vals++qs.map iC)++(e6 (a+o.many) (fL os)).map (λi=>mm (i % 256)):=by
      rw[OF,La,bH,←gq,List.range'_append_1];rfl
     show ju ocs' (vals++_);refine ah e ?_;exact f2
end
section
variable{I:List O}{nst gi:V}{n p a:Nat}{mm:Nat->Int}{s:pG}{m:Am}{os:List Ord}{vals:List Int}
noncomputable def ja(a:Nat)(os:List Ord):List V:=ni (.int (ab 1)) (32::(eX a).txt)::rowsOf 1 os
theorem wQ:∀(os:List Ord)(j:Nat),(rowsOf j os).length=os.length| [],_=>rfl|o::os,j=>congrArg aZ (wQ os (j+1))
theorem BF(hm:∀i,0≤mm i/\mm i<256)(ha:a<65536)(sY:iu mm a os)(Eo:Po I p s m gi .nil .nil)(oM:s.at'=.int 0)(hL:dq I.length I)(hrl:(100:Int)<s.rl)(hz:aO gi≤100)(ho:os.length≤50):
  ∃bK szs' ocs' lis' s',ae (aq NO (KT (n+14)) (.cons (.loc p) (.cons (.lst (aU (ja a os))) (.cons nst .nil)))) I .none bK/\Po bK p s' m szs' ocs' lis'/\ju ocs' (bif s.last then(e6 a (fL os)).map (λi=>mm (i % 256)) else [])/\bK.length=I.length/\dq bK.length bK/\mw lis'/\aO szs'≤aO gi+os.length:=by
 have hlen:(ja a os).length=1+os.length:=by show(rowsOf 1 os).length+1=_;rw[wQ];lia
 refine aD (K9 (n:=n+1) (a:=a) (rows:=.lst (aU (ja a os))) (atv:=.int (ab 1)) (nst:=nst) (num:=.int (ab 1)) Eo ha hL (by omega) (λY=>trivial) ⟨_,rfl⟩ (by refine ah oM ?_;exactλY=>trivial)) λr0 hL0=>?_;have acs:Po (I.set p (.inst 7 (s.row.zk a).val)) p (s.row.zk a) m gi .nil .nil:=Eo.GS (ib rfl rfl rfl rfl);have acu:(s.row.zk a).rl=s.rl - 1:=rfl;have acv:ju .nil ([] :List Int):=(aQ [] rfl rfl);have hl0:(I.set p (.inst 7 (s.row.zk a).val)).length=I.length:=by simp
 refine WW (BE (n:=n) (nst:=nst) hm os a 1 (turns - 1) (I.set p (.inst 7 (s.row.zk a).val)) (s.row.zk a) gi .nil .nil [] (ja a os) (.cons aJ (ni (.int (ab 1)) (32::(eX a).txt)) .nil) sY acs rfl (by refine ah hl0 ?_;exact hL0) (by refine ah acu ?_;lia) (by lia) (by show 0+_≤_;omega) (by show 0+_≤_;omega) acv ⟨rfl,λY Y=>rfl⟩ (.inr ⟨_,rfl⟩) rfl hlen (by omega) (by show os.length<599;omega)) λbK szs' ocs' lis' xF s' r f1 f2 f3 f4 f5 f6=>?_;refine(abf bK szs' ocs' lis' s' ?_ f1 ?_ (f3.trans hl0) f4 f5 f6)
 ·refine ae.eH (ns:=[aT,gB,uV]) (ε₁:=K_ p (.lst (aU (ja a os))) nst (ja a os).length xF) rfl (d5 (v:=.int (ab 0)) bV ?_);refine U5 (s:=B' Vt Vu) (E:=K_ p (.lst (aU (ja a os))) nst 0 .nil) ?_ dx;have t:=wO (K:=KT (n+14)) (nst:=nst) (j:=0) (tl:=.nil) (rs:=ja a os) (by omega) Eo.hp;rw[decide_eq_true (by omega)] at t;exact au.wa (n:=turns - 1) (br.qW t) (xH (j:=0) (.inl rfl) rfl (by lia) Eo.hp r0) r
 ·have LP:(s.row.zk a).last=s.last:=rfl;rw[LP] at f2
  cases hq:s.last<;>(rw[hq] at f2;exact f2)
end
noncomputable def hJ:List S->S| [] =>[] | [x] =>x|x::y::l=>x++10::hJ (y::l)
section
variable{K:Kc}{I σ₁ σ₂:List O}{v w acc y z:V}{x it:C}{t:Tg}{E ε₁:Env}{n j:Nat}{H:Type}{s:S}
theorem xI(h:s.length≤1000000):cY s=true:=by
 unfold cY;rw[eu];exact ez.mpr h
theorem Vv:∀(p:S)(r:S)(acc:S),10∉p->kC false 10 (p++10::r) acc=.cons (.ak (acc.reverse++p)) (kC false 10 r []):=by
 intro zr
 induction zr with
 |nil=>
  exact @λr acc _=>by
   show V.cons (DA false (wZ acc [])) (kC false 10 r [])=_;rw[ro,cM];rfl
 |cons c p bN=>
  exact @λr acc h=>by
   have hc:c≠10:=λe=>h (by refine ah e ?_;exact aW);have e:kC false 10 ((c::p)++10::r) acc= @Bool.rec (λY=>V) (kC false 10 (p++10::r) (c::acc)) (.cons (DA false (wZ acc [])) (kC false 10 (p++10::r) [])) (aC c 10):=rfl;have hb:aC c 10=false:=by cases q:aC c 10 with|false=>rfl|true=>exact absurd (eJ q) hc
   refine ah e (ah hb ?_);show kC false 10 (p++10::r) (c::acc)=_;rw[bN r (c::acc) λm=>h (aP _ m),iz,bH];rfl
theorem OP:∀(p:S)(acc:S),10∉p->kC false 10 p acc=.cons (.ak (acc.reverse++p)) .nil:=by
 intro zr
 induction zr with
 |nil=>
  exact @λacc _=>by
   show V.cons (DA false (wZ acc [])) .nil=_;rw[ro,cM];rfl
 |cons c p bN=>
  exact @λacc h=>by
   have hc:c≠10:=λe=>h (by refine ah e ?_;exact aW);have e:kC false 10 (c::p) acc= @Bool.rec (λY=>V) (kC false 10 p (c::acc)) (.cons (DA false (wZ acc [])) (kC false 10 p [])) (aC c 10):=rfl;have hb:aC c 10=false:=by cases q:aC c 10 with|false=>rfl|true=>exact absurd (eJ q) hc
   refine ah e (ah hb ?_);show kC false 10 p (c::acc)=_;rw[bN (c::acc) λm=>h (aP _ m),iz,bH];rfl
theorem BG:∀(l:List S),l≠ [] ->(∀p∈l,10∉p)->kC false 10 (hJ l) [] =aU (l.map V.ak)
 | [],h,_=>absurd rfl h
 | [p],_,h=>by rw[hJ,OP p [] (h p aW)];rfl
 |p::q::l,_,h=>by
  rw[hJ,Vv p _ [] (h p aW),BG (q::l) (λe=>nomatch e) λx hx=>h x (aP _ hx)];rfl
theorem Lb{l:List H}(g:H->V)(f:Nat->H->V)(sg:Nat->List O)(hd:∀j,j≤l.length->LS v (sg j) (l.map g))(hl:l.length≤500)(hx:∀j a,l[j]? =some a->∃ε₁,(∀h o,t (g a) E ⟨sg j,h,o⟩=.ok ε₁)/\ae (x K ε₁) (sg j) (f j a) (sg (j+1))):
  ae (dT x t v K E turns 0 .nil) (sg 0) (.loc (sg l.length).length) (sg l.length++[.list (aU (l.mapIdx f))]):=by
 have gen:∀(n j:Nat),j≤l.length->l.length - j<n->ae (dT x t v K E n j (aU ((l.take j).mapIdx f).reverse)) (sg j) (.loc (sg l.length).length) (sg l.length++[.list (aU (l.mapIdx f))]):=by
  intro n
  induction n with
  |zero=>intro j _ h;exact absurd h (eA _)
  |succ n ih=>
   intro j hj hn;have key:∀h o,dT x t v K E (n+1) j (aU ((l.take j).mapIdx f).reverse) ⟨sg j,h,o⟩= @RD.rec (λY=>RE) RE.no (s_ (fk (aU ((l.take j).mapIdx f).reverse) V.nil) ⟨sg j,h,o⟩) (λy=>kI x K (t y E ⟨sg j,h,o⟩) ⟨sg j,h,o⟩ (λz B=>dT x t v K E n (aZ j) (.cons z (aU ((l.take j).mapIdx f).reverse)) B)) (drawn v j ⟨sg j,h,o⟩):=λh o=>rfl;refine kY (l[j]?) (λhg=>?_) (λa hg=>?_)
   ·have hle:l.length=j:=qF (iP.mp hg) hj;have hpl:l.take j=l:=nZ (lP hle);rw[←hle] at key ⊢;refine ae.LR (g:=λB=>jg (.list (aU (l.mapIdx f))) B) (bA [] [] trivial (λbC o'=>?_)) λh o=>?_
    ·show RE.ok (.loc (kB (sg l.length))) ⟨mE (sg l.length) _,bC,o'⟩=_;rw[ew,fg];rfl
    ·rw[key,hd _ (bT _),eI,hle,hg];show s_ (fk (aU ((l.take j).mapIdx f).reverse) V.nil) ⟨sg j,h,o⟩=_;rw[E',qt,hpl,mj (tL _)];show @Bool.rec (λY=>RE) RE.no (jg (.list (aU (l.mapIdx f))) ⟨sg j,h,o⟩) (bF (aU (l.mapIdx f)))=_;exact ah (cU (by rw[dD,List.length_mapIdx];exact bb (by assumption) (bW _ _))) rfl
   ·have hW:j<l.length:=(cA.mp hg).1;refine aL (hx j a hg) λε₁ ht hr=>?_;have Bv:=ih (j+1) hW (by omega)
    have e:aU ((l.take (j+1)).mapIdx f).reverse=.cons (f j a) (aU ((l.take j).mapIdx f).reverse):=by
     refine ah n4 (ah hg ?_);show aU ((l.take j++[a]).mapIdx f).reverse=_;refine ah List.mapIdx_append (ah qr (ah gp (ah (qE (jX hW)) ?_)));show aU ([f (0+j) a].reverse++_)=_;rw[d8];rfl
    rw[e] at Bv;refine ae.LR (ae.and (k:=λz B=>dT x t v K E n (aZ j) (.cons z (aU ((l.take j).mapIdx f).reverse)) B) hr Bv) λh o=>?_;rw[key,hd j hj,eI,hg];show kI x K (t (g a) E ⟨sg j,h,o⟩) ⟨sg j,h,o⟩ _=_;rw[ht];rfl
 exact gen turns 0 (fN _) (show l.length - 0<600 by exact dR (by assumption) (by decide))
theorem OQ{l:List V}{i:Nat}(hi:I[i]? =some (.list (aU l))):LS (.G_ (.loc i)) I (l.zipIdx.map λx=>.tup (.cons (.int (ab x.2)) (.cons x.1 .nil))):=λh o j=>by
 have e:drawn (.G_ (.loc i)) j ⟨I,h,o⟩=VQ j (dF (e_ I i)):=rfl;refine ah e (ah (bM hi) ?_);show HD j (eW (aU l) j)=_;rw[mV,eI,lK]
 cases l[j]? with
 |none=>rfl
 |some x=>
  show RD.ok _=RD.ok _;rw[d8]
end
noncomputable section
noncomputable def hY(x:Nat->S):Nat->List O
 |0=>[]
 |j+1=>hY x j++[.inst 3 (hI (.int (ab (j+1))) (.ak (x j)) .none .none (.loc (2+2 * j))),.list .nil]
end
section
variable{K:Kc}{I J:List O}{x:Nat->S}{n j i t:Nat}{ls:List S}{k:Int}{y:S}{B:Mm}
theorem oY:∀n,(hY x n).length=2 * n:=by
 intro zr
 induction zr with
 |zero=>
  exact rfl
 |succ n bN=>
  exact by rw[hY,dA,bN];show 2 * n+2=_;rfl
theorem Ld:∀n j,j<n->(hY x n)[2 * j]? =some (.inst 3 (hI (.int (ab (j+1))) (.ak (x j)) .none .none (.loc (2+2 * j))))/\(hY x n)[2 * j+1]? =some (.list .nil):=by
 intro zr
 induction zr with
 |zero=>
  exact @λj h=>absurd h (eA _)
 |succ n bN=>
  exact @λj h=>by
   by_cases hj:j<n
   ·refine aD (bN j hj) λa b=>?_;exact⟨bq a,bq b⟩
   ·have:j=n:=by lia
    subst this;constructor
    ·rw[hY,jU (by rw[oY];exact bT _),oY,Nat.sub_self];rfl
    ·rw[hY,jU (by rw[oY];exact fZ _),oY,show 2 * j+1 - 2 * j=1 by lia];rfl
theorem OT(h1:I[i]? =some (.inst 3 (hI (.int k) (.ak y) .none .none (.loc t))))(h2:I[t]? =some (.list .nil)):cZ 7 ⟨I,[],[]⟩ (.loc i)=.ok (ni (.int k) y):=by
 have e1:cZ 6 ⟨I,[],[]⟩ (.loc t)=.ok (.lst .nil):=jJ (k:=5) h2 rfl;have e:cZ 7 ⟨I,[],[]⟩ (.loc i)=q8 (cZ 6 ⟨I,[],[]⟩) (e_ I i):=rfl;refine ah e (ah (bM h1) ?_);show gO (λY=>dN (OV.ok (.int k)) (dN (OV.ok (.ak y)) (dN (OV.ok .none) (dN (OV.ok .none) (dN (cZ 6 ⟨I,[],[]⟩ (.loc t)) (OV.ok .nil) (V.fld rU)) (V.fld d_)) (V.fld 477247246341)) (V.fld bY)) (V.fld uU)) (V.xf 3) .nil=_;refine ah e1 ?_;rfl
theorem GZ{s:S}{l:V}(hs:s.length≤1000000)(hl:kC false 10 s [] =l)(hn:aO l≤10000):ae (lU .split (.ak s) (.cons (.str [10]) .nil)) I (.loc I.length) (I++[.list l]):=
 ⟨[],[cY s=true],⟨xI hs,trivial⟩,λbC o'=>by
  have e:lU .split (.ak s) (.cons (.str [10]) .nil) ⟨I,[] ++bC,o'⟩=iV (kC false 10 s []) ⟨I,bC,(cY s=true)::o'⟩:=rfl;refine ah e (ah hl ?_);have e2:∀B,iV l B= @Bool.rec (λY=>RE) RE.no (jg (.list l) B) (bF l):=λY=>rfl;rw[e2,cU hn];show RE.ok (.loc (kB I)) ⟨mE I (.list l),bC,_⟩=_;rw[ew,fg];rfl⟩
theorem Le{k t:Nat}{x x':V}(h:I[t]? =some (.list x))(hx:bZ (cZ k ⟨I,[],[]⟩) x=.ok x'):cZ (k+1) ⟨I,[],[]⟩ (.loc t)=.ok (.lst x'):=by
 have e:cZ (k+1) ⟨I,[],[]⟩ (.loc t)=q8 (cZ k ⟨I,[],[]⟩) (e_ I t):=rfl;refine ah e (ah (bM h) ?_);show @OV.rec (λY=>OV) OV.no (λl=>OV.ok (.lst l)) (bZ (cZ k ⟨I,[],[]⟩) x)=_;exact ah hx rfl
theorem Lf(qk:ls≠ [])(hnl:∀p∈ls,10∉p)(hl:ls.length≤100)(hs:(hJ ls).length≤1000000):R56 (.cons (.ak (hJ ls)) .nil) (.lst (aU (ls.mapIdx λi x=>ni (.int (ab (i+1))) x))):=by
 let xs:Nat->S:=λi=>(ls[i]?).getD []
 let b:List O:=[.list (aU (ls.map V.ak))]
 have hb:b.length=1:=rfl;have hlen:∀j,(b++hY xs j).length=1+2 * j:=λj=>by rw[dA,oY,hb]
 have hzl:(ls.map V.ak).zipIdx.length=ls.length:=by simp
 have run:ae (aq f56 K0 (.cons (.ak (hJ ls)) .nil)) [] (.loc (b++hY xs ls.length).length) ((b++hY xs ls.length)++[.list (aU ((ls.map V.ak).zipIdx.mapIdx λj Y=>V.loc (1+2 * j)))]):=by
  refine ae.call (ns:=[mA]) rfl (ef (oU (σ₁:=b) (v:=.G_ (.loc 0)) (fj (σ₁:=b) (ai (J6 (σ₁:=[]) (σ₂:=[]) (aI rfl) (λY Y=>rfl) (ai bV aF) (GZ (I:=[]) hs (BG ls qk hnl) (by rw[dD,bx];exact bb (by assumption) (bW _ _)))) aF) (ae.to ae.ok λB=>rfl)) ?_));have h:=Lb (K:=K0) (v:=.G_ (.loc 0)) (x:=HF 3 55 (aH (et .add (cV aB) (cC (.int (.ofNat 1)))) (aH (cV bY) ck))) (t:=gK [aB,bY]) (E:=.cons mA (.ak (hJ ls)) .nil) (l:=(ls.map V.ak).zipIdx) (λx=>.tup (.cons (.int (ab x.2)) (.cons x.1 .nil))) (λj Y=>.loc (1+2 * j)) (λj=>b++hY xs j) (λj Y=>OQ (bq rfl)) (by lia) λj a hj=>?_
  ·replace h:=hzl▸h;have e0:b++hY xs 0=b:=cM _;replace h:=e0▸h;exact h
  ·obtain⟨p,hp,rfl⟩:∃p,ls[j]? =some p/\a=(V.ak p,j):=by
    replace hj:=(eI)▸((lK)▸hj);refine kZ (ls[j]?) (λhq=>?_) (λp hq=>?_)
    ·replace hj:=hq▸hj;(injection hj)
    ·replace hj:=hq▸hj;have hj:some (V.ak p,0+j)=some a:=hj;injection hj with g1;subst g1
     exact⟨p,rfl,by rw[d8]⟩
   have hx:xs j=p:=by show(ls[j]?).getD [] =p;refine ah hp ?_;rfl
   refine(aQ _ (λY Y=>rfl) ?_)
   have hni:=xE (K:=K0) (c:=3) (f:=55) (E:=.cons mA (.ak (hJ ls)) (.cons aB (.int (ab j)) (.cons bY (.ak p) .nil))) (a:=aH (et .add (cV aB) (cC (.int (.ofNat 1)))) (aH (cV bY) ck)) (I:=b++hY xs j) (σ₁:=b++hY xs j) (l:=.cons (.int (ab (j+1))) (.cons (.ak p) .nil)) (ai (cn (aI rfl) bV (ae.to (v:=.int (ab (j+1))) ae.ok λB=>rfl)) (ai (aI rfl) aF)) (by
    refine ah (show K0 55=aq Zx (kJ gQ 3) from Bo (k:=3) rfl) ?_;exact wK)
   rw[hlen j] at hni;refine ae.st hni ?_;rw[hY,←bH,hx,show 1+2 * j+1=2+2 * j by exact lO _ _ _]
 refine(ji _ _ _ _ gF.refl rfl run.z ?_ jc.refl)
 have y9:∀i,i<ls.length->cZ 7 ⟨(b++hY xs ls.length)++[.list (aU ((ls.map V.ak).zipIdx.mapIdx λj Y=>V.loc (1+2 * j)))],[],[]⟩ (.loc (1+2 * i))=.ok (ni (.int (ab (i+1))) (xs i)):=λi hi=>by
  refine aD (Ld (x:=xs) ls.length i hi) λg1 g2=>?_;refine OT (t:=2+2 * i) (bq ?_) (bq ?_)
  ·rw[jU (by rw[hb];exact iR _ _),hb,show 1+2 * i - 1=2 * i by lia];exact g1
  ·rw[jU (by rw[hb];lia),hb,show 2+2 * i - 1=2 * i+1 by lia];exact g2
 have td:bZ (cZ 7 ⟨(b++hY xs ls.length)++[.list (aU ((ls.map V.ak).zipIdx.mapIdx λj Y=>V.loc (1+2 * j)))],[],[]⟩) (aU ((ls.map V.ak).zipIdx.mapIdx λj Y=>V.loc (1+2 * j)))=.ok (aU (ls.mapIdx λi x=>ni (.int (ab (i+1))) x)):=by
  generalize (b++hY xs ls.length)++[O.list (aU ((ls.map V.ak).zipIdx.mapIdx λj Y=>V.loc (1+2 * j)))] =F at y9 ⊢
  have gen:∀(ys:List V)(zs:List V),ys.length=zs.length->(∀(i:Nat)(y z:V),ys[i]? =some y->zs[i]? =some z->cZ 7 ⟨F,[],[]⟩ y=.ok z)->bZ (cZ 7 ⟨F,[],[]⟩) (aU ys)=.ok (aU zs):=by
   intro ys
   induction ys with
   |nil=>intro zs h _;induction zs using bE with|nil=>rfl|cons _ _=>(injection h)
   |cons y ys ih=>
    intro zs h g
    induction zs using bE with
    |nil=>(injection h)
    |cons z zs=>
     show dN (cZ 7 ⟨F,[],[]⟩ y) (bZ (cZ 7 ⟨F,[],[]⟩) (aU ys)) V.cons=_;rw[g 0 y z rfl rfl,ih zs (fO h) λi y' z' h1 h2=>g (i+1) y' z' (by simpa using h1) (by simpa using h2)];rfl
  refine gen _ _ (by simp) λi y z h1 h2=>?_;rw[List.getElem?_mapIdx] at h1 h2;refine kY (ls[i]?) (λhq=>?_) (λp hq=>?_)
  ·rw[hq] at h2;(injection h2)
  ·rw[hq] at h2;have hi:=(cA.mp hq).1;rw[lK,eI,hq] at h1;injection h1 with g1;subst g1
   injection h2 with g1;subst g1
   have:=y9 i hi;rw[show xs i=p by show(ls[i]?).getD [] =p;rw[hq];rfl] at this;exact this
 exact Le (k:=7) bR td
end
noncomputable section
noncomputable def OU(N sy si:Nat)(last:Bool):pG:=⟨sy,si,N+1,N+2,N+3,N+4,last,0,.int 0,4000⟩
noncomputable def OW(N:Nat):Am:=⟨N+5,N+6,N+7,N+8⟩
noncomputable def BH(N sy si:Nat)(last:Bool):List O:=[.inst 7 (OU N sy si last).val,.dict .nil,.dict .nil,.dict .nil,.inst 6 (OW N).val,.list .nil,.dict .nil,.list .nil,.list .nil]
end
section
variable{K:Kc}{I τ J:List O}{v w x:V}{n N sy si:Nat}{last:Bool}{ob:O}
theorem Lg{T:List O}(hT:T.length=N):ae (aq UQ K (.cons (.loc N) .nil)) (T++[.inst 6 .nil]) .none (T++[.inst 6 (Am.val ⟨N+1,N+2,N+3,N+4⟩),.list .nil,.dict .nil,.list .nil,.list .nil]):=by
 subst hT;refine ae.eH (ns:=[aT]) (ε₁:=.cons aT (.loc T.length) .nil) rfl ?_;have ln:∀J:List O,(T++J).length=T.length+J.length:=λJ=>dA;refine dH lu (aI rfl) (bq bR) rfl ?_;rw[iK,zE,cH,ln];refine dH sF (aI rfl) (bq bR) rfl ?_;rw[iK,jx,cH,ln];refine dH lu (aI rfl) (bq bR) rfl ?_;rw[iK,jx,cH,ln];refine dH lu (aI rfl) (bq bR) rfl ?_;rw[iK,jx,cH,ln];refine dH bV (aI rfl) bR rfl ?_;refine ah cH ?_;exact dx
theorem G0(acw:∀(T:List O),ae (K 102 (.cons (.loc T.length) .nil)) (T++[.inst 6 .nil]) .none (T++[.inst 6 (Am.val ⟨T.length+1,T.length+2,T.length+3,T.length+4⟩),.list .nil,.dict .nil,.list .nil,.list .nil])):
  ae (aq UR K (.cons (.loc τ.length) (.cons (.loc sy) (.cons (.loc si) (.cons (.bool last) (.cons (.fn 90) .nil)))))) (τ++[.inst 7 .nil]) .none (τ++BH τ.length sy si last):=by
 refine ae.eH (ns:=[aT,ei,507786126387,mz,my]) (ε₁:=.cons aT (.loc τ.length) (.cons ei (.loc sy) (.cons 507786126387 (.loc si) (.cons mz (.bool last) (.cons my (.fn 90) .nil))))) rfl ?_;have ln:∀J:List O,(τ++J).length=τ.length+J.length:=λJ=>dA;refine dH (aI rfl) (aI rfl) bR rfl ?_;refine ah cH ?_;refine dH (aI rfl) (aI rfl) bR rfl ?_;refine ah cH ?_;refine dH (aI rfl) (aI rfl) bR rfl ?_;refine ah cH ?_;refine dH (aI rfl) (aI rfl) bR rfl ?_;refine ah cH ?_;refine dH bV (aI rfl) bR rfl ?_;refine ah cH ?_;refine dH sF (aI rfl) (bq bR) rfl ?_;rw[iK,jx,cH,ln];refine dH sF (aI rfl) (bq bR) rfl ?_;rw[iK,jx,cH,ln];refine dH sF (aI rfl) (bq bR) rfl ?_;rw[iK,jx,cH,ln];refine dH bV (aI rfl) bR rfl ?_;refine ah cH ?_;refine dH bV (aI rfl) bR rfl ?_;refine ah cH ?_;refine dH bV (aI rfl) bR rfl ?_;refine ah cH ?_;refine dH bV (aI rfl) bR rfl ?_;refine ah cH ?_;refine dH (xE aF (acw _)) (aI rfl) (bq bR) rfl ?_;rw[iK,jx,cH,ln];exact dx
theorem Lh(h1:τ[sy]? =some (.dict .nil))(h2:τ[si]? =some (.list w)):Po (τ++BH τ.length sy si last) τ.length (OU τ.length sy si last) (OW τ.length) w .nil .nil:=by
 have l1:=bO h1;have l2:=bO h2
 have g:∀k ob,(BH τ.length sy si last)[k]? =some ob->(τ++BH τ.length sy si last)[τ.length+k]? =some ob:=λk ob h=>by
  rw[jU (iR _ _),n7];exact h
 refine⟨g 0 _ rfl,g 4 _ rfl,g 5 _ rfl,g 7 _ rfl,bq h2,g 3 _ rfl,g 8 _ rfl,bq h1,?_,?_⟩
 ·show [τ.length,τ.length+5,τ.length+7,si].Nodup;simp only[gW,aR,fw,or_false,not_or];exact⟨⟨by omega,by omega,by omega⟩,⟨by omega,by omega⟩,by omega,not_false,jw⟩
 ·intro i hi j hj;have qk:sy≠si:=λe=>by replace h1:=h2▸(e▸h1);cases h1
  have Xf:i∈ [τ.length,τ.length+5,τ.length+7,si] :=hi;have Qi:j∈ [τ.length+4,τ.length+3,τ.length+8,sy] :=hj;clear hi hj;simp only[aR,fw,or_false] at Xf Qi
  rcases Xf with e|e|e|e<;>rcases Qi with f|f|f|f<;>lia
end
noncomputable section
noncomputable def iw(a:Nat)(os:List Ord):List S:=(32::(eX a).txt)::os.map λo=>32::o.txt
noncomputable def BI(dP lis:V):V:=.xf 6 (.fld kU (.lst dP) (.fld ei (.wX .nil) (.fld xK (.lst lis) (.fld 130557560470435 (.lst .nil) (.fld 534181223479 .none .nil)))))
end
section
variable{K:Kc}{I τ J:List O}{v w x gi dP lis:V}{n N sy si i j a p:Nat}{last:Bool}{ob:O}{os:List Ord}{mm:Nat->Int}{s:pG}{m:Am}{vals:List Int}{E:Env}{src:S}{t:Tg}{b:CS}
theorem Dm(a:Nat)(os:List Ord):((iw a os).mapIdx λi x=>ni (.int (ab (i+1))) x)=ja a os:=by
 have gen:∀(os:List Ord)(j:Nat),((os.map λo=>32::o.txt).mapIdx λi x=>ni (.int (ab (i+j+1))) x)=rowsOf j os:=by
  intro os
  induction os with
  |nil=>intro j;rfl
  |cons o os ih=>
   intro j;refine ah dB (ah List.mapIdx_cons ?_)
   have:=ih (j+1);show ni (.int (ab (0+j+1))) (32::o.txt)::_=ni (.int (ab (j+1))) (32::o.txt)::rowsOf (j+1) os;rw[←this,d8]
   congr 2
   funext i x
   rw[show i+1+j+1=i+(j+1)+1 by lia]
 rw[iw,List.mapIdx_cons,ja,←gen os 1]
theorem Li(h1:I[i]? =some (.list .nil))(h2:I[j]? =some (.list .nil)):br (fy .ne (.loc i) (.loc j)) I false I:=by
 refine(bA [] [] trivial (λbC o'=>?_));have e:fy .ne (.loc i) (.loc j) ⟨I,[] ++bC,o'⟩=u1 (uZ (xN 7) (dF (e_ I i)) (dF (e_ I j)) ⟨I,bC,o'⟩):=rfl;refine ah e (ah (bM h1) (ah (bM h2) ?_));rfl
theorem OX(h:I[i]? =some (.dict .nil)):au (forL t (.loc i) b K turns 0 E) I (.dw E) I:=by
 refine(bA [] [] trivial (λbC o'=>?_));have e:forL t (.loc i) b K turns 0 E ⟨I,[] ++bC,o'⟩= @RD.rec (λY=>RS) RS.no (RS.dw E ⟨I,bC,o'⟩) (λy=>q7 b K (t y E ⟨I,bC,o'⟩) ⟨I,bC,o'⟩ (forL t (.loc i) b K 599 1)) (Q5 (e_ I i) 0):=rfl;refine ah e (ah (bM h) ?_);rfl
theorem BJ(h:dq τ.length τ)(h1:sy<τ.length)(h2:si<τ.length):dq (τ++BH τ.length sy si last).length (τ++BH τ.length sy si last):=by
 have hl:(τ++BH τ.length sy si last).length=τ.length+9:=dA;refine ah hl ?_;intro o ho
 rcases bp.mp ho with q|q
 ·exact sM (λi hi=>qH 9 hi) (h o q)
 ·simp only[BH,aR,fw,or_false] at q
  rcases q with rfl|rfl|rfl|rfl|rfl|rfl|rfl|rfl|rfl
  ·exact⟨qH 9 h1,trivial,qH 9 h2,trivial,trivial,by show τ.length+1<_;omega,by show τ.length+2<_;omega,by show τ.length+3<_;omega,trivial,trivial,trivial,trivial,by show τ.length+4<_;omega,trivial⟩
  ·trivial
  ·trivial
  ·trivial
  ·exact⟨by show τ.length+5<_;omega,by show τ.length+6<_;exact ur (fZ _),by show τ.length+7<_;exact fZ _,by show τ.length+8<_;exact bT _,trivial,trivial⟩
  ·trivial
  ·trivial
  ·trivial
  ·trivial
theorem OY(B:Mm):∀xs:List (Int×Bool×Int),bZ (cZ 6 B) (aU (xs.map λx=>.tup (.cons (.sym x.1) (.cons (oV x.2.1 x.2.2) .nil))))=.ok (aU (xs.map λx=>.tup (.cons (.sym x.1) (.cons (oV x.2.1 x.2.2) .nil)))):=by
 intro zr
 induction zr with
 |nil=>
  exact rfl
 |cons x xs bN=>
  exact by
   have h1:cZ 6 B (.tup (.cons (.sym x.1) (.cons (oV x.2.1 x.2.2) .nil)))=.ok (.tup (.cons (.sym x.1) (.cons (oV x.2.1 x.2.2) .nil))):=by cases x.2.1<;>rfl
   show dN (cZ 6 B (.tup (.cons (.sym x.1) (.cons (oV x.2.1 x.2.2) .nil)))) (bZ (cZ 6 B) (aU (xs.map _))) V.cons=_;refine ah h1 (ah (bN) ?_);rfl
theorem OZ(h:Po I p s m gi dP lis)(ho:ju dP vals)(hl:mw lis):cZ 8 ⟨I.set s.md (.inst 6 (hP m.val ei (.loc s.sy))),[],[]⟩ (.loc s.md)=.ok (BI dP lis):=by
 have hn:∀{i ob},I[i]? =some ob->(∀l:V,ob≠O.inst 6 l)->(I.set s.md (.inst 6 (hP m.val ei (.loc s.sy))))[i]? =some ob:=λ{i ob} g q=>dX g λe=>by replace g:=h.hm▸(e▸g);(injection g with g1;subst g1);exact q _ rfl
 have e:cZ 8 ⟨I.set s.md (.inst 6 (hP m.val ei (.loc s.sy))),[],[]⟩ (.loc s.md)=q8 (cZ 7 ⟨I.set s.md (.inst 6 (hP m.val ei (.loc s.sy))),[],[]⟩) (e_ (I.set s.md (.inst 6 (hP m.val ei (.loc s.sy)))) s.md):=rfl;refine ah e (ah (bM (get_eq (bO h.hm))) ?_)
 have h1:cZ 7 ⟨I.set s.md (.inst 6 (hP m.val ei (.loc s.sy))),[],[]⟩ (.loc m.oc)=.ok (.lst dP):=by
  refine aL ho λxs i7 Y=>?_;clear ho;subst i7;exact jJ (k:=6) (hn h.ho λY q=>nomatch q) (OY _ xs)
 have h2:cZ 7 ⟨I.set s.md (.inst 6 (hP m.val ei (.loc s.sy))),[],[]⟩ (.loc s.sy)=.ok (.wX .nil):=by
  have e:cZ 7 ⟨I.set s.md (.inst 6 (hP m.val ei (.loc s.sy))),[],[]⟩ (.loc s.sy)=q8 (cZ 6 ⟨I.set s.md (.inst 6 (hP m.val ei (.loc s.sy))),[],[]⟩) (e_ (I.set s.md (.inst 6 (hP m.val ei (.loc s.sy)))) s.sy):=rfl;refine ah e (ah (bM (hn h.Qg λY q=>nomatch q)) ?_);rfl
 have h3:cZ 7 ⟨I.set s.md (.inst 6 (hP m.val ei (.loc s.sy))),[],[]⟩ (.loc m.li)=.ok (.lst lis):=jJ (k:=6) (hn h.hl λY q=>nomatch q) (hl.2 3 _);have h4:cZ 7 ⟨I.set s.md (.inst 6 (hP m.val ei (.loc s.sy))),[],[]⟩ (.loc m.er)=.ok (.lst .nil):=jJ (k:=6) (hn h.her λY q=>nomatch q) rfl
 generalize (⟨I.set s.md (.inst 6 (hP m.val ei (.loc s.sy))),[],[]⟩:Mm)=B at h1 h2 h3 h4 ⊢
 show gO (λY=>dN (cZ 7 B (.loc m.oc)) (dN (cZ 7 B (.loc s.sy)) (dN (cZ 7 B (.loc m.li)) (dN (cZ 7 B (.loc m.er)) (OV.ok (.fld 534181223479 .none .nil)) (V.fld 130557560470435)) (V.fld xK)) (V.fld ei)) (V.fld kU)) (V.xf 6) .nil=_;refine ah h1 (ah h2 (ah h3 (ah h4 ?_)));rfl
theorem O0(hm:∀i,0≤mm i/\mm i<256)(ha:a<65536)(sY:iu mm a os)(ho:os.length≤50)(h56:R56 (.cons (.ak src) .nil) (.lst (aU (ja a os)))):
  ∃v bK dP lis,ae (aq U0 (KT (n+15)) (.cons (.ak src) (.cons (.fn 90) .nil))) [] v bK/\cZ 8 ⟨bK,[],[]⟩ v=.ok (BI dP lis)/\ju dP ((e6 a (fL os)).map λi=>mm (i % 256)):=by
 have aak:∀{τ:List O}{sy si:Nat}{last:Bool},ae (KT (n+15) 103 (.cons (.loc τ.length) (.cons (.loc sy) (.cons (.loc si) (.cons (.bool last) (.cons (.fn 90) .nil)))))) (τ++[.inst 7 .nil]) .none (τ++BH τ.length sy si last):=λ{τ sy si last}=>by
  refine ah (kt (g:=aq UR) (k:=n+14) rfl) ?_;refine G0 λT=>?_;refine ah (kt (g:=aq UQ) (k:=n+13) rfl) ?_;exact Lg rfl
 have k56:ae (KT (n+15) 56 (.cons (.ak src) .nil)) [] (.lst (aU (ja a os))) [] :=by
  refine ah (kt (g:=gm R56) (k:=n+14) rfl) ?_;exact eO h56
 let O1:List O:=[.dict .nil,.list .nil]
 have p1:Po (O1++BH 2 0 1 false) 2 (OU 2 0 1 false) (OW 2) .nil .nil .nil:=Lh (τ:=O1) (sy:=0) (si:=1) rfl rfl
 have l1:dq (O1++BH 2 0 1 false).length (O1++BH 2 0 1 false):=BJ (τ:=O1) (λo ho=>by
  simp only[O1,aR,fw,or_false] at ho
  rcases ho with rfl|rfl<;>trivial) (by decide) (by decide)
 refine WU (BF (n:=n) (nst:=.int (.ofNat 0)) hm ha sY p1 rfl l1 (by show(100:Int)<4000;exact b9 _) (fN _) ho) λLj gi oc1 li1 s1 r1 p2 Y BK l2 Y hz=>?_;have BK:Lj.length=11:=BK
 let Dn:List O:=Lj++[.list .nil,.dict .nil]
 have Ll:Dn.length=13:=by show(Lj++_).length=13;refine ah dA (ah BK ?_);rfl
 have g12:Dn[12]? =some (.dict .nil):=by
  show(Lj++[O.list .nil,.dict .nil])[12]? =_;refine ah (jU (by lia)) (ah BK ?_);rfl
 have gsi:Dn[s1.si]? =some (.list gi):=bq p2.hs
 have p3:Po (Dn++BH 13 12 s1.si true) 13 (OU 13 12 s1.si true) (OW 13) gi .nil .nil:=by
  have:=Lh (τ:=Dn) (sy:=12) (si:=s1.si) (last:=true) g12 gsi;replace this:=Ll▸this;exact this
 have l3:dq (Dn++BH 13 12 s1.si true).length (Dn++BH 13 12 s1.si true):=by
  have:=BJ (τ:=Dn) (sy:=12) (si:=s1.si) (last:=true) (λo ho=>by
   refine ah Ll ?_
   rcases bp.mp ho with q|q
   ·exact sM (λi hi=>by replace hi:=BK▸hi;exact bb (by assumption) (bW _ _)) (l2 o q)
   ·simp only[aR,fw,or_false] at q
    rcases q with rfl|rfl<;>trivial) (by refine ah Ll ?_;decide) (bO gsi)
  replace this:=Ll▸this;exact this
 have hz0:aO gi≤100:=by have:aO gi≤0+os.length:=hz;lia
 refine WU (BF (n:=n) (nst:=.int (.ofNat 0)) hm ha sY p3 rfl l3 (by show(100:Int)<4000;exact b9 _) hz0 ho) λσ4 acO oc4 li4 s4 r2 p4 aal acP l4 acx Y=>?_;refine(W3 (.loc s4.md) _ oc4 li4 (ae.call (ns:=[mA,my]) rfl ?_) (OZ p4 aal acx) aal);refine d5 (eG (ai (aI rfl) aF) k56) ?_;refine d5 (v:=.loc 2) (σ₁:=O1++BH 2 0 1 false) (xE (σ₁:=O1) (ai sF (ai lu (ai bV (ai (aI rfl) aF)))) (aak (τ:=O1) (sy:=0) (si:=1))) ?_;refine i9 (iq (f:=107) (aI rfl) p1.hp rfl (ai (aI rfl) (ai bV aF)) (λY Y Y=>rfl) (v:=.none) (σ₃:=Lj) ?_) ?_
 ·refine ah (kt (g:=aq NO) (k:=n+14) rfl) ?_;exact r1
 have e11:ae (B6 ck (KT (n+15)) (.cons mA (.ak src) (.cons my (.fn 90) (.cons gB (.lst (aU (ja a os))) (.cons 512385712685 (.loc 2) .nil))))) Lj (.loc 11) (Lj++[.list .nil]):=by
  have:=lu (K:=KT (n+15)) (E:=.cons mA (.ak src) (.cons my (.fn 90) (.cons gB (.lst (aU (ja a os))) (.cons 512385712685 (.loc 2) .nil)))) (I:=Lj);replace this:=BK▸this;exact this
 have g11:(Lj++[O.list .nil])[11]? =some (.list .nil):=by refine ah (jU (lP (by assumption))) (ah BK ?_);rfl
 refine bU (bu (bg (bg (aI rfl) p2.hp rfl) p2.hm rfl) e11 (Li (bq p2.her) g11)) ?_;have l12:(Lj++[O.list .nil]).length=12:=by refine ah dA (ah BK ?_);rfl
 refine d5 (v:=.loc 12) (σ₁:=Dn) (by
  have:=sF (K:=KT (n+15)) (E:=.cons mA (.ak src) (.cons my (.fn 90) (.cons gB (.lst (aU (ja a os))) (.cons 512385712685 (.loc 2) .nil)))) (I:=Lj++[.list .nil]);replace this:=iK▸(l12▸this);exact this) ?_
 refine wJ (σ₁:=Dn) (σ₂:=Dn) (bg (aI rfl) (bq p2.hp) rfl) (OX (bq p2.Qg)) ?_
 refine d5 (v:=.loc 13) (σ₁:=Dn++BH 13 12 s1.si true) (by
  have:=xE (K:=KT (n+15)) (c:=7) (f:=103) (a:=aH (cV 486278591794) (aH (dZ (cV 512385712685) 507786126387) (aH (cC (.bool true)) (aH (cV my) ck)))) (E:=.cons mA (.ak src) (.cons my (.fn 90) (.cons gB (.lst (aU (ja a os))) (.cons 512385712685 (.loc 2) (.cons 486278591794 (.loc 12) .nil))))) (I:=Dn) (σ₁:=Dn) (ai (aI rfl) (ai (bg (aI rfl) (bq p2.hp) rfl) (ai bV (ai (aI rfl) aF)))) (aak (τ:=Dn) (sy:=12) (si:=s1.si) (last:=true));replace this:=Ll▸this;exact this) ?_
 refine i9 (iq (f:=107) (aI rfl) p3.hp rfl (ai (aI rfl) (ai bV aF)) (λY Y Y=>rfl) (v:=.none) (σ₃:=σ4) ?_) ?_
 ·refine ah (kt (g:=aq NO) (k:=n+14) rfl) ?_;exact r2
 refine dH (v:=.loc s4.sy) (p:=s4.md) (bg (aI rfl) p4.hp rfl) (bg (aI rfl) p4.hp rfl) p4.hm rfl ?_;have qk:(13:Nat)≠s4.md:=λe=>by have:=p4.hm;replace this:=p4.hp▸(iL e▸this);cases this
 exact ef (bg (aI rfl) (dX p4.hp qk) rfl)
end
noncomputable section
def Vw:V->V->Prop:=fD (aq UZ (KT 17))
end
section
variable{K:Kc}{I τ J:List O}{v w x gi dP lis:V}{n N i j a p:Nat}{os:List Ord}{mm:Nat->Int}{vals:List Int}{E:Env}{src:S}
noncomputable def O2(a:Nat)(os:List Ord):S:=hJ (iw a os)
theorem sO:∀l:List S,(∀p∈l,p.length≤100)->(hJ l).length≤101 * l.length
 | [],_=>bT _
 | [p],h=>by have:=h p aW;show p.length≤101 * 1;exact ur (by assumption)
 |p::q::l,h=>by
  have h1:=h p aW;have h2:=sO (q::l) λx hx=>h x (aP _ hx);show(p++10::hJ (q::l)).length≤101 * (l.length+1+1);refine ah dA (ah ey ?_);rw[ey] at h2;lia
theorem Lm:∀{os:List Ord}{a:Nat},iu mm a os->∀o∈os,o.fit:=by
 intro zr
 induction zr with
 |nil=>
  exact @λ_ _ o h=>nomatch h
 |cons q os bN=>
  exact @λa ⟨h1,_,h3⟩ o h=>by
   rcases aR.mp h with rfl|h
   ·exact h1.fit
   ·exact bN h3 o h
theorem wR(ha:a<65536)(sY:iu mm a os):∀p∈iw a os,10∉p/\p.length≤100:=λp hp=>by
 have one:∀o:Ord,o.fit->10∉(32::o.txt)/\(32::o.txt).length≤100:=λo ho=>by
  refine aD (yV ho) λh1 h2=>?_;refine⟨λm=>?_,by refine ah ey ?_;exact dR (by assumption) (by decide)⟩
  rcases aR.mp m with e|m
  ·cases e
  ·exact(E5 (h1 10 m)).2 rfl
 rcases aR.mp hp with rfl|hp
 ·exact one _ (Fq ha)
 ·refine aL (dC.mp hp) λo ho fF=>?_;subst fF;exact one o (Lm sY o ho)
theorem O3(hm:∀i,0≤mm i/\mm i<256)(ha:a<65536)(sY:iu mm a os)(ho:os.length≤50):∃dP lis,Vw (.cons (.ak (O2 a os)) .nil) (BI dP lis)/\ju dP ((e6 a (fL os)).map λi=>mm (i % 256)):=by
 have hlen:(iw a os).length=os.length+1:=by simp[iw]
 have h56:R56 (.cons (.ak (O2 a os)) .nil) (.lst (aU (ja a os))):=by
  have h:=Lf (ls:=iw a os) (λe=>nomatch e) (λp hp=>(wR ha sY p hp).1) (by omega) (by have:=sO (iw a os) λp hp=>(wR ha sY p hp).2;lia);rw[Dm] at h;exact h
 refine Rf (O0 (n:=1) hm ha sY ho h56) λv bK dP lis r hf KQ=>?_;refine(bA dP lis (ji _ v _ bK gF.refl rfl (ae.z ?_) hf jc.refl) KQ);refine ae.call (ns:=[mA]) rfl (ef (eG (ai (aI rfl) (ai bV aF)) ?_));refine ah (kt (g:=aq U0) (k:=16) rfl) ?_;exact r
theorem Ln{lis:V}(h:ju dP vals)(hl:vals.length≤400):∃bs:List (Bool×Int),ae (aq U1 K (.cons (BI dP lis) .nil)) I (.loc I.length) (I++[.list (aU (hM bs))])/\bs.map iC=vals:=by
 refine aL h λxs i5 kg=>?_;clear h;subst i5;subst kg;refine⟨xs.map λx=>x.2,?_,by rw[fM];rfl⟩;rw[bx] at hl;refine ae.call (ns:=[9065759850810121320]) rfl (ef (oU (v:=.lst (aU (xs.map λx=>.tup (.cons (.sym x.1) (.cons (oV x.2.1 x.2.2) .nil))))) (σ₁:=I) (px (aI rfl) rfl) ?_));have h:=comp_map (K:=K) (I:=I) (v:=.lst (aU (xs.map λx=>.tup (.cons (.sym x.1) (.cons (oV x.2.1 x.2.2) .nil))))) (x:=cV ec) (t:=gK [aB,ec]) (E:=.cons 9065759850810121320 (BI (aU (xs.map λx=>.tup (.cons (.sym x.1) (.cons (oV x.2.1 x.2.2) .nil)))) lis) .nil) (l:=xs) (λx=>.tup (.cons (.sym x.1) (.cons (oV x.2.1 x.2.2) .nil))) (λx=>oV x.2.1 x.2.2) tM (bb (by assumption) (bW _ _)) λx hx=>(aQ _ (λY Y=>rfl) (aI rfl));rw[ew,fg] at h;rw[hM,fM];exact h
theorem O4{b:Int}(hb:0≤b):LS (.om 0 b 1) I ((cy b.toNat).map λk=>.int (ab k)):=λh o j=>by
 have e:drawn (.om 0 b 1) j ⟨I,h,o⟩= @Bool.rec (λY=>RD) RD.fin (RD.ok (.int (aS 0 (ab j)))) (gI (aS 0 (ab j)) b):=rfl;have e0:aS 0 (ab j)=ab j:=t5 _;rw[e,e0,bj,eI]
 by_cases hj:j<b.toNat
 ·rw[uf hj,decide_eq_true (by show(j:Int)<b;omega)];rfl
 ·rw[zG (by rw[nU];exact Nat.le_of_not_lt (by assumption)),decide_eq_false (by show¬(j:Int)<b;omega)];rfl
end
noncomputable section
noncomputable def dU:Nat->List Ord->List V|_,[] =>[] |a,o::os=>.tup (.cons (.sym (ab a)) (.cons (.ak o.txt) .nil))::dU (a+o.many) os
noncomputable def TL:Tr (Kc->V->Mm->RE):=gn gQ 26 (gm Z1)
noncomputable def KL:Kc:=dW TL KY 4
noncomputable def R27:V->V->Prop:=fD (aq f27 KL)
noncomputable abbrev aam:CS:=bI (w1 (gK [bY,dG]) (rZ 26 (aH (cV fT) (aH (cV aB) ck)))) (bI (r6 (FN .append (cV j3) (aH (pV (aH (cV aB) (aH (cV bY) ck))) ck))) (bI (m_ aB (et .and (et .add (cV aB) (cV dG)) (cC (.int (.ofNat 65535))))) fm))
noncomputable abbrev Wf(acV k:V)(a:Nat)(e:Env):Env:=.cons fT acV (.cons aB (.sym (ab a)) (.cons fU k (.cons j3 (.loc 0) e)))
end
section
variable{K:Kc}{I σ₁ σ₂:List O}{v w x y k acc:V}{n N i j a p:Nat}{os:List Ord}{o:Ord}{mm:Nat->Int}{vals:List Int}{E ε₁ cz:Env}{t:Tg}{b:CS}{r:Out}
theorem xJ:∀(os:List Ord)(a:Nat),(dU a os).length=os.length| [],_=>rfl|o::os,a=>congrArg aZ (xJ os _)
theorem oQ{bK:List O}(hd:∀B,drawn v j B=.ok y)(ht:∀B,t y E B=.ok ε₁)(hb:au (b K ε₁) I (.dw cz) σ₁)(hr:au (forL t v b K n (j+1) cz) σ₁ r bK):au (forL t v b K (n+1) j E) I r bK:=au.oQ hd ht hb hr
theorem y_{k:Int}(h:(j:Int)<k):∀B,drawn (.om 0 k 1) j B=.ok (.int (ab j)):=λB=>by
 have e:drawn (.om 0 k 1) j B= @Bool.rec (λY=>RD) RD.fin (RD.ok (.int (aS 0 (ab j)))) (gI (aS 0 (ab j)) k):=rfl;have e0:aS 0 (ab j)=ab j:=t5 _;rw[e,e0,bj,decide_eq_true (show ab j<k from h)]
theorem Ft{k:Int}(h:¬(j:Int)<k):∀B,drawn (.om 0 k 1) j B=.fin:=λB=>by
 have e:drawn (.om 0 k 1) j B= @Bool.rec (λY=>RD) RD.fin (RD.ok (.int (aS 0 (ab j)))) (gI (aS 0 (ab j)) k):=rfl;have e0:aS 0 (ab j)=ab j:=t5 _;rw[e,e0,bj,decide_eq_false (show¬ab j<k from h)]
theorem oZ{i:Int}(h0: -1000000000000<i)(h1:i<1000000000000):mid i=true:=by
 unfold mid;rw[bj,bj,decide_eq_true (by omega),decide_eq_true (by omega)];rfl
theorem sP{i:Int}{c:Bool}(h0:0≤i)(h1:i<100000):ae (wY 1 (.cons (oV c i) .nil)) I (.om 0 i 1) I:=by
 have h:ek (mid 0) (mid i)=true:=by refine ah (oZ (by omega) (by omega)) (ah (oZ (by omega) (by omega)) ?_);rfl
 induction c with
 |false=>exact⟨[],[ek (mid 0) (mid i)=true],⟨h,trivial⟩,λbC o'=>by kernel_rfl⟩
 |true=>
  exact ae.to (v:=.om 0 i 1) ae.ok λB=>by
   show @Bool.rec (λY=>RE) RE.no (RE.ok (.om 0 i 1) B) (ek (mid 0) (mid i))=_;exact ah h rfl
theorem G1(Vx:∀(I:List O)(a:Nat)(o:Ord),mq mm a o->ae (K 26 (.cons (.lst (mem mm)) (.cons (.sym (ab a)) .nil))) I (.tup (.cons (.ak o.txt) (.cons (.sym (ab o.many)) .nil))) I){kk:Int}:
  ∀(os:List Ord)(a j n':Nat)(acc:V)(tl:Env),iu mm a os->a+fL os<65536->kk=((j+os.length:Nat):Int)->os.length<n'->pO acc=true->aO acc+os.length≤1000->(tl=.nil∨∃x y z,tl=.cons gC x (.cons bY y (.cons dG z .nil)))->
   ∃xF,au (forL (iX gC) (.om 0 kk 1) aam K n' j (Wf (.lst (mem mm)) k a tl)) [.list acc] (.dw (Wf (.lst (mem mm)) k (a+fL os) xF)) [.list (a_ acc (aU (dU a os)))] :=by
 intro zr
 induction zr with
 |nil=>
  exact @λa j n' acc tl _ _ hk hn za _ _=>by
   obtain⟨m,rfl⟩:∃m,n'=m+1:=⟨n' - 1,by have:0<n':=hn;omega⟩;refine⟨tl,?_⟩;have e:a_ acc (aU (dU a []))=acc:=mj za;refine ah e ?_;exact au.yF (Ft (by refine ah hk ?_;show¬(j:Int)< ((j+0:Nat):Int);omega))
 |cons o os bN=>
  exact @λa j n' acc tl ⟨ho,ha,sY⟩ hs hk hn za hl ht=>by
   obtain⟨m,rfl⟩:∃m,n'=m+1:=⟨n' - 1,by have:0<n':=dR (fN _) hn;omega⟩;rw[ey] at hk hn hl;have hs:a+(o.many+fL os)<65536:=hs;have hle:aO (a_ acc (.cons (.tup (.cons (.sym (ab a)) (.cons (.ak o.txt) .nil))) .nil))=aO acc+1:=fH _ _;refine bc (bN (a+o.many) (j+1) m (a_ acc (.cons (.tup (.cons (.sym (ab a)) (.cons (.ak o.txt) .nil))) .nil)) (.cons gC (.int (ab j)) (.cons bY (.ak o.txt) (.cons dG (.sym (ab o.many)) .nil))) sY (by omega) (by refine ah hk ?_;congr 1;lia) (by omega) (tH za) (by omega) (.inr (HM _ _ _ rfl))) λxF r=>?_;rw[sv za] at r;refine⟨xF,?_⟩;have e:a+fL (o::os)=a+o.many+fL os:=(jz _ _ _).symm;refine ah e ?_
   have aan:mF (aS (ab a) (ab o.many)) 65535=ab (a+o.many):=by
    rw[rM];show((a:Int)+(o.many:Int))% 65536=((a+o.many:Nat):Int);lia
   have turn:∀O5:Env,(O5=.cons gC (.int (ab j)) .nil∨∃y z,O5=.cons gC (.int (ab j)) (.cons bY y (.cons dG z .nil)))->au (aam K (Wf (.lst (mem mm)) k a O5)) [.list acc] (.dw (Wf (.lst (mem mm)) k (a+o.many) (.cons gC (.int (ab j)) (.cons bY (.ak o.txt) (.cons dG (.sym (ab o.many)) .nil))))) [.list (a_ acc (.cons (.tup (.cons (.sym (ab a)) (.cons (.ak o.txt) .nil))) .nil))] :=λO5 h0=>by
    refine kr (eG (ai (aI rfl) (ai (aI rfl) aF)) (Vx _ a o ho)) (ε₁:=Wf (.lst (mem mm)) k a (.cons gC (.int (ab j)) (.cons bY (.ak o.txt) (.cons dG (.sym (ab o.many)) .nil)))) (λh o=>by rcases h0 with rfl|⟨y,z,rfl⟩<;>rfl) ?_;refine i9 (mv (i:=0) (xs:=acc) (aI rfl) rfl (hH (ai (aI rfl) (ai (aI rfl) aF)) rfl) rfl (cU (by refine ah hle ?_;omega))) ?_
    have hv:ae (et .and (et .add (cV aB) (cV dG)) (cC (.int (.ofNat 65535))) K (Wf (.lst (mem mm)) k a (.cons gC (.int (ab j)) (.cons bY (.ak o.txt) (.cons dG (.sym (ab o.many)) .nil))))) [.list (a_ acc (.cons (.tup (.cons (.sym (ab a)) (.cons (.ak o.txt) .nil))) .nil))] (.sym (ab (a+o.many))) [.list (a_ acc (.cons (.tup (.cons (.sym (ab a)) (.cons (.ak o.txt) .nil))) .nil))] :=by
     refine eV aan ?_;exact⟨[],[zb .add (ab o.many)=true],⟨rfl,trivial⟩,λbC o'=>by kernel_rfl⟩
    exact d5 hv dx
   rcases ht with rfl|⟨x,y,z,rfl⟩
   ·exact oQ (y_ (by refine ah hk ?_;show(j:Int)< ((j+(os.length+1):Nat):Int);omega)) (λB=>rfl) (turn _ (.inl rfl)) r
   ·exact oQ (y_ (by refine ah hk ?_;show(j:Int)< ((j+(os.length+1):Nat):Int);omega)) (λB=>rfl) (turn _ (.inr (Ae y z rfl))) r
theorem Lo{c:Bool}(sY:iu mm a os)(hs:a+fL os<65536)(hl:os.length≤50):R27 (.cons (.lst (mem mm)) (.cons (.sym (ab a)) (.cons (oV c (ab os.length)) .nil))) (.tup (.cons (.lst (aU (dU a os))) (.cons (.sym (ab (a+fL os))) .nil))):=by
 have Vx:∀(I:List O)(a:Nat)(o:Ord),mq mm a o->ae (KL 26 (.cons (.lst (mem mm)) (.cons (.sym (ab a)) .nil))) I (.tup (.cons (.ak o.txt) (.cons (.sym (ab o.many)) .nil))) I:=λI a o h=>by
  show ae (dW TL KY (3+1) 26 _) I _ I;refine ah (lh (g:=gm Z1) rfl) ?_;exact eO (E9 h)
 refine bc (G1 (k:=oV c (ab os.length)) Vx (kk:=ab os.length) os a 0 turns .nil .nil sY hs (by rw[d8];rfl) (by show os.length<600;omega) rfl (by show 0+os.length≤1000;omega) (.inl rfl)) λxF r=>?_
 have acy:ae (aq f27 KL (.cons (.lst (mem mm)) (.cons (.sym (ab a)) (.cons (oV c (ab os.length)) .nil)))) [] (.tup (.cons (.loc 0) (.cons (.sym (ab (a+fL os))) .nil))) [.list (aU (dU a os))] :=by
  refine ae.call (ns:=[fT,aB,fU]) rfl (d5 (lu (I:=[])) ?_);exact wJ (fj (ai (aI rfl) aF) (sP (b9 _) (by show(os.length:Int)<100000;omega))) r (ef (hH (ai (aI rfl) (ai (aI rfl) aF)) rfl))
 refine(ji _ _ _ _ gF.refl ?_ acy.z ?_ jc.refl)
 ·show dN (cZ 8 ⟨[],[],[]⟩ (.lst (mem mm))) (dN (OV.ok (.sym (ab a))) (dN (cZ 8 ⟨[],[],[]⟩ (oV c (ab os.length))) (OV.ok .nil) V.cons) V.cons) V.cons=_;refine ah (mr (rN mm _ 256 0 6)) ?_
  induction c<;>rfl
 ·have h0:cZ 7 ⟨[.list (aU (dU a os))],[],[]⟩ (.loc 0)=.ok (.lst (aU (dU a os))):=by
   refine jJ (k:=6) rfl ?_
   generalize (⟨[O.list (aU (dU a os))],[],[]⟩:Mm)=B
   have gen:∀(os:List Ord)(a:Nat),bZ (cZ 6 B) (aU (dU a os))=.ok (aU (dU a os)):=by
    intro os
    induction os with
    |nil=>intro a;rfl
    |cons o os ih=>
     intro a;show dN (OV.ok (.tup (.cons (.sym (ab a)) (.cons (.ak o.txt) .nil)))) (bZ (cZ 6 B) (aU (dU (a+o.many) os))) V.cons=_;rw[ih];rfl
   exact gen os a
  show gO (λY=>dN (cZ 7 ⟨[.list (aU (dU a os))],[],[]⟩ (.loc 0)) (OV.ok (.cons (.sym (ab (a+fL os))) .nil)) V.cons) V.tup .nil=_;refine ah h0 ?_;rfl
end
noncomputable section
noncomputable def TW:Tr (Kc->V->Mm->RE):=gn (gn (gn gQ 26 (gm Z1)) 27 (gm R27)) 126 (gm Vw)
noncomputable def KW(n:Nat):Kc:=dW TW (KT 17) n
noncomputable abbrev aao:CS:=bI (w1 (gK [bY,dG]) (rZ 26 (aH (cV fT) (aH (cV 1739030440) ck)))) (bI (B8 (xR (mZ .le .le (cC (.int (.ofNat 1))) (cV dG) (cC (.int (.ofNat 4))))) (bI (vd (cC (.bool false))) fm) fm) (bI (r6 (FN .append (cV gB) (aH (pV (aH (cV 1739030440) (aH (cV bY) ck))) ck))) (bI (m_ 1739030440 (et .add (cV 1739030440) (cV dG))) fm)))
noncomputable abbrev Vy(at' k acV:V)(h:Nat)(e:Env):Env:=.cons aB at' (.cons fU k (.cons fT acV (.cons gB (.loc 0) (.cons 1739030440 (.sym (ab h)) e))))
end
section
variable{K:Kc}{I σ₁ σ₂:List O}{v w x y k acc at':V}{n N i j a p:Nat}{os:List Ord}{o:Ord}{mm:Nat->Int}{vals:List Int}{E ε₁ cz:Env}{t:Tg}{b:CS}{r:Out}{q:Bool}
theorem kw{f k:Nat}{g:Kc->V->Mm->RE}(e:Tr.get (λY Y Y=>RE.no) TW f=g):KW (k+1) f=g (KW k):=lh e
theorem O6(h1:1≤o.many)(h4:o.many≤4){E:Env}(he:a8 E dG=.ok (.sym (ab o.many))):ae (xR (mZ .le .le (cC (.int (.ofNat 1))) (cV dG) (cC (.int (.ofNat 4)))) K E) I (.bool false) I:=by
 have h1':br (fy .le (.int (.ofNat 1)) (.sym (ab o.many))) I true I:=by
  have h:br (fy .le (.int (.ofNat 1)) (.sym (ab o.many))) I (mY 1 (ab o.many)) I:=br.ask;rw[pQ (show(1:Int)≤ab o.many by show(1:Int)≤(o.many:Int);exact gT.mpr (by assumption))] at h;exact h
 have h4':br (fy .le (.sym (ab o.many)) (.int (.ofNat 4))) I true I:=by
  have h:br (fy .le (.sym (ab o.many)) (.int (.ofNat 4))) I (mY (ab o.many) 4) I:=br.ask;rw[pQ (show ab o.many≤(4:Int) by show(o.many:Int)≤4;exact gT.mpr (by assumption))] at h;exact h
 have h5:ae (λB=>cw (cC (.int (.ofNat 4)) K E B) (u_ .le (.sym (ab o.many)))) I (.bool true) I:=ae.and (v:=.int (.ofNat 4)) bV (ae.bool h4');exact EV (q:=true) (ae.and bV (ae.and (aI he) (ae.ite (b:=true) h1' h5)))
theorem G2(Vx:∀(I:List O)(a:Nat)(o:Ord),mq mm a o->ae (K 26 (.cons (.lst (mem mm)) (.cons (.sym (ab a)) .nil))) I (.tup (.cons (.ak o.txt) (.cons (.sym (ab o.many)) .nil))) I){kk:Int}:
  ∀(os:List Ord)(a j n':Nat)(acc:V)(tl:Env),iu mm a os->kk=((j+os.length:Nat):Int)->os.length<n'->pO acc=true->aO acc+os.length≤1000->(tl=.nil∨∃x y z,tl=.cons gC x (.cons bY y (.cons dG z .nil)))->
   ∃xF,au (forL (iX gC) (.om 0 kk 1) aao K n' j (Vy at' k (.lst (mem mm)) a tl)) [.list acc] (.dw (Vy at' k (.lst (mem mm)) (a+fL os) xF)) [.list (a_ acc (aU (dU a os)))] :=by
 intro zr
 induction zr with
 |nil=>
  exact @λa j n' acc tl _ hk hn za _ _=>by
   obtain⟨m,rfl⟩:∃m,n'=m+1:=⟨n' - 1,by have:0<n':=hn;omega⟩;refine⟨tl,?_⟩;have e:a_ acc (aU (dU a []))=acc:=mj za;refine ah e ?_;exact au.yF (Ft (by refine ah hk ?_;show¬(j:Int)< ((j+0:Nat):Int);lia))
 |cons o os bN=>
  exact @λa j n' acc tl ⟨ho,ha,sY⟩ hk hn za hl ht=>by
   obtain⟨m,rfl⟩:∃m,n'=m+1:=⟨n' - 1,by have:0<n':=dR (fN _) hn;omega⟩;rw[ey] at hk hn hl;have hkn:=ho.known;simp only[wz,cK] at hkn;have h1:=eB hkn.2.2.2.1;have h4:=eB hkn.2.2.2.2.1;have hle:aO (a_ acc (.cons (.tup (.cons (.sym (ab a)) (.cons (.ak o.txt) .nil))) .nil))=aO acc+1:=fH _ _;refine bc (bN (a+o.many) (j+1) m (a_ acc (.cons (.tup (.cons (.sym (ab a)) (.cons (.ak o.txt) .nil))) .nil)) (.cons gC (.int (ab j)) (.cons bY (.ak o.txt) (.cons dG (.sym (ab o.many)) .nil))) sY (by refine ah hk ?_;congr 1;exact(uq _ _).symm) (Nat.le_of_lt_succ (by assumption)) (tH za) (by omega) (.inr (HM _ _ _ rfl))) λxF r=>?_;rw[sv za] at r;refine⟨xF,?_⟩;have e:a+fL (o::os)=a+o.many+fL os:=(jz _ _ _).symm;refine ah e ?_
   have turn:∀O5:Env,(O5=.cons gC (.int (ab j)) .nil∨∃y z,O5=.cons gC (.int (ab j)) (.cons bY y (.cons dG z .nil)))->au (aao K (Vy at' k (.lst (mem mm)) a O5)) [.list acc] (.dw (Vy at' k (.lst (mem mm)) (a+o.many) (.cons gC (.int (ab j)) (.cons bY (.ak o.txt) (.cons dG (.sym (ab o.many)) .nil))))) [.list (a_ acc (.cons (.tup (.cons (.sym (ab a)) (.cons (.ak o.txt) .nil))) .nil))] :=λO5 h0=>by
    refine kr (eG (ai (aI rfl) (ai (aI rfl) aF)) (Vx _ a o ho)) (ε₁:=Vy at' k (.lst (mem mm)) a (.cons gC (.int (ab j)) (.cons bY (.ak o.txt) (.cons dG (.sym (ab o.many)) .nil)))) (λh o=>by rcases h0 with rfl|⟨y,z,rfl⟩<;>rfl) ?_;refine bU (O6 h1 h4 rfl) ?_;refine i9 (mv (i:=0) (xs:=acc) (aI rfl) rfl (hH (ai (aI rfl) (ai (aI rfl) aF)) rfl) rfl (cU (by refine ah hle ?_;omega))) ?_;exact d5 (v:=.sym (ab (a+o.many))) (cn (aI rfl) (aI rfl) ⟨[],[zb .add (ab o.many)=true],⟨rfl,trivial⟩,λbC o'=>by kernel_rfl⟩) dx
   rcases ht with rfl|⟨x,y,z,rfl⟩
   ·exact oQ (y_ (by refine ah hk ?_;show(j:Int)< ((j+(os.length+1):Nat):Int);omega)) (λB=>rfl) (turn _ (.inl rfl)) r
   ·exact oQ (y_ (by refine ah hk ?_;show(j:Int)< ((j+(os.length+1):Nat):Int);omega)) (λB=>rfl) (turn _ (.inr (Ae y z rfl))) r
theorem QI{rest:Bool}{c:Mm->RB}{f:Mm->RB}(h:br c I true I)(g:br f I q I):br (λB=>eqT rest (c B) f) I q I:=by
 refine a6 h λh1 o1 p1 e1=>?_;clear h;refine a6 g λh2 o2 p2 e2=>?_;clear g;refine(bA (h1++h2) (o2++o1) (AllP.app p2 p1) (λbC o'=>?_));show eqT rest (c ⟨I,(h1++h2)++bC,o'⟩) f=_;rw[bH,e1,bH];exact e2 bC (o1++o')
theorem Lp{f:V->V->Mm->RB}:∀{l m:List V},l.length=m.length->(∀(i:Nat)(x y:V),l[i]? =some x->m[i]? =some y->br (f x y) I true I)->br (Hj f (aU l) (aU m)) I true I
 | [],[],_,_=>br.ok
 |x::l,y::m,h,g=>QI (rest:=sU (aU l) (aU m)) (g 0 x y rfl rfl) (Lp (fO h) λi a b h1 h2=>g (i+1) a b (by simpa using h1) (by simpa using h2))
 | [],_::_,h,_=>nomatch h
 |_::_,[],h,_=>nomatch h
theorem sQ:∀(os:List Ord)(a i:Nat)(x:V),(dU a os)[i]? =some x->∃a' s,x=.tup (.cons (.sym a') (.cons (.ak s) .nil))
 | [],a,i,x,h=>nomatch h
 |o::os,a,0,x,h=>by(injection h with g1;subst g1);exact Ae _ _ rfl
 |o::os,a,i+1,x,h=>sQ os (a+o.many) i x (by simpa [dU] using h)
theorem wU(i:Int):rX i i=true:=by rw[iG];exact decide_eq_true rfl
theorem Lq(s:S):sEq s s=true:=by rw[fP];exact beq_self_eq_true s
theorem G3{e:Int}(h:I[i]? =some (.list (aU (dU a os)))):br (fy .ne (.tup (.cons (.lst (aU (dU a os))) (.cons (.sym e) .nil))) (.tup (.cons (.loc i) (.cons (.sym e) .nil)))) I false I:=by
 have y9:br (Hj (xN 6) (aU (dU a os)) (aU (dU a os))) I true I:=Lp rfl λk x y h1 h2=>by
  rw[h1] at h2;injection h2 with g1;subst g1
  refine Mg (sQ os a k x h1) λa' s kg=>?_;subst kg;exact⟨hB [true,true],[sEq s s=true,rX a' a'=true],(bL (Lq s) (wU a') trivial),λbC o'=>by kernel_rfl⟩
 have hl:br (xN 7 (.lst (aU (dU a os))) (.loc i)) I true I:=by
  refine a6 y9 λh1 o1 p1 e1=>?_;clear y9;refine(bA h1 o1 p1 (λbC o'=>?_));have e2:xN 7 (.lst (aU (dU a os))) (.loc i) ⟨I,h1++bC,o'⟩=xM (xN 6) (aU (dU a os)) (dF (e_ I i)) ⟨I,h1++bC,o'⟩:=rfl;refine ah e2 (ah (bM h) ?_);have e3:∀A B,xM (xN 6) A (dF (.ok (.list A))) B= @Bool.rec (λY=>RB) (RB.ok false B) (Hj (xN 6) A A B) (aC (aO A) (aO A)):=λA B=>rfl;rw[e3,jY];exact e1 bC o'
 have hs:br (Hj (xN 7) (.cons (.sym e) .nil) (.cons (.sym e) .nil)) I true I:=⟨hB [true],[rX e e=true],⟨wU e,trivial⟩,λbC o'=>by kernel_rfl⟩
 have:=QI (rest:=sU (.cons (.sym e) .nil) (.cons (.sym e) .nil)) hl hs;exact br.neg (b:=true) (c:=λB=>Hl (.tup (.cons (.lst (aU (dU a os))) (.cons (.sym e) .nil))) (.tup (.cons (.loc i) (.cons (.sym e) .nil))) B) this
end
section
variable{K:Kc}{I σ₁ σ₂:List O}{v w x y k acc at':V}{n N i j a p:Nat}{os:List Ord}{o:Ord}{mm:Nat->Int}{vals:List Int}{E ε₁ cz:Env}{t:Tg}{b:CS}{r:Out}{q:Bool}{l m:V}{bs:List (Bool×Int)}
theorem add_lists(h1:I[i]? =some (.list l))(h2:I[j]? =some (.list m))(hs:aO (a_ l m)≤10000):ae (rY .add (.loc i) (.loc j)) I (.loc I.length) (I++[.list (a_ l m)]):=⟨[],[],trivial,λbC o'=>by
 have e:rY .add (.loc i) (.loc j) ⟨I,[] ++bC,o'⟩=Hr .add (dF (e_ I i)) (.loc j) ⟨I,bC,o'⟩:=rfl;refine ah e (ah (bM h1) ?_);have e2:∀l,Hr .add (dF (.ok (.list l))) (.loc j) ⟨I,bC,o'⟩=Hq l (dF (e_ I j)) ⟨I,bC,o'⟩:=λl=>rfl;rw[e2,bM h2];have e3:∀l m B,Hq l (dF (.ok (.list m))) B= @Bool.rec (λY=>RE) RE.no (jg (.list (a_ l m)) B) (bF (a_ l m)):=λl m B=>rfl;rw[e3,cU hs];show RE.ok (.loc (kB I)) ⟨mE I _,bC,o'⟩=_;rw[ew,fg];rfl⟩
theorem Dp:∀(x:S)(l:List S),xi [10] (aU ((x::l).map V.ak))=.ok (hJ (x::l)):=by
 have rest:∀(x:S)(l:List S),iU x (match joinR [10] (aU (l.map V.ak)) with|.ok s=>s|.no=>[])=hJ (x::l)/\∃s,joinR [10] (aU (l.map V.ak))=.ok s:=by
  intro x l
  induction l generalizing x with
  |nil=>exact⟨by show iU x [] =x;rw[eM,cM],[],rfl⟩
  |cons y l ih=>
   refine aD (ih y) λh1 kN=>?_;refine bc kN λs hs=>?_;clear kN
   have e:joinR [10] (aU ((y::l).map V.ak))=.ok (iU [10] (iU y s)):=by
    show kH (OS.ok [10]) (kH (OS.ok y) (joinR [10] (aU (l.map V.ak))))=_;refine ah hs ?_;rfl
   rw[hs] at h1;refine⟨?_,_,e⟩;refine ah e ?_;show iU x (iU [10] (iU y s))=x++10::hJ (y::l);rw[←h1,eM,eM];rfl
 intro x l;refine aD (rest x l) λh1 kO=>?_;refine bc kO λs hs=>?_;clear kO;show kH (OS.ok x) (joinR [10] (aU (l.map V.ak)))=_;rw[hs] at h1 ⊢;show OS.ok (iU x s)=_;exact ah h1 rfl
theorem Lr{ls:List S}{x:S}(h:I[i]? =some (.list (aU ((x::ls).map V.ak))))(hs:(hJ (x::ls)).length≤1000000):ae (lU .join (.str [10]) (.cons (.loc i) .nil)) I (.ak (hJ (x::ls))) I:=by
 refine(bA [] [cY (hJ (x::ls))=true] ⟨xI hs,trivial⟩ (λbC o'=>?_));have e:lU .join (.str [10]) (.cons (.loc i) .nil) ⟨I,[] ++bC,o'⟩=B4 true [10] (dF (e_ I i)) ⟨I,bC,o'⟩:=rfl;rw[e,bM h];have e2:∀B,B4 true [10] (dF (.ok (.list (aU ((x::ls).map V.ak))))) B=xO false (xi [10] (aU ((x::ls).map V.ak))) B:=λB=>rfl;rw[e2,Dp];rfl
theorem Ls{b e:Int}(hb:b≤e):LS (.om b e 1) I ((cy (e - b).toNat).map λk=>.int (b+ab k)):=λh o j=>by
 have e1:drawn (.om b e 1) j ⟨I,h,o⟩= @Bool.rec (λY=>RD) RD.fin (RD.ok (.int (aS b (ab j)))) (gI (aS b (ab j)) e):=rfl;rw[e1,bj,eI]
 by_cases hj:j< (e - b).toNat
 ·rw[uf hj,decide_eq_true (by show b+(j:Int)<e;omega)];rfl
 ·rw[zG (by rw[nU];omega),decide_eq_false (by show¬b+(j:Int)<e;omega)];rfl
theorem Vz{z:Int}(h0:0≤z)(h1:z<256):ae (qX (.lst (mem mm)) (.int z)) I (.sym (mm z.toNat)) I:=by
 refine bc (fX h0) λk kh=>?_;subst kh;refine ae.to ae.ok λB=>?_;have e:qX (.lst (mem mm)) (.int (ab k)) B= @Bool.rec (λY=>RE) RE.no (ze (eW (mem mm) k) B) (low (ab k)):=rfl;show qX (.lst (mem mm)) (.int (ab k)) B=_;rw[e,wq (by show(-1000:Int)< (k:Int);omega) (by show(k:Int)<100000;omega),v8 mm 256 0 k (by omega),d8];rfl
theorem G4{ds:List Int}(h1:I[i]? =some (.list (aU (hM bs))))(h2:I[j]? =some (.list (aU (ds.map V.sym))))(h:bs.map iC=ds):br (fy .eq (.loc i) (.loc j)) I true I:=by
 have hr:br (Hj (xN 7) (aU (hM bs)) (aU (ds.map V.sym))) I true I:=Lp (by rw[hM,bx,bx,←h,bx]) λk x y g1 g2=>by
  rw[←h,fM,eI] at g2;rw[hM,eI] at g1;refine kY (bs[k]?) (λhq=>?_) (λq hq=>?_)
  ·rw[hq] at g1;(injection g1)
  ·rw[hq] at g1 g2;injection g1 with g1;subst g1
   injection g2 with g1;subst g1;obtain⟨b,z⟩:=q
   induction b<;>exact⟨hB [true],[rX z z=true],⟨wU z,trivial⟩,λbC o'=>by kernel_rfl⟩
 refine a6 hr λhh o1 p1 e1=>?_;clear hr;refine(bA hh o1 p1 (λbC o'=>?_));have e:fy .eq (.loc i) (.loc j) ⟨I,hh++bC,o'⟩=uZ (xN 7) (dF (e_ I i)) (dF (e_ I j)) ⟨I,hh++bC,o'⟩:=rfl;refine ah e (ah (bM h1) (ah (bM h2) ?_));have e3:∀A acT B,uZ (xN 7) (dF (.ok (.list A))) (dF (.ok (.list acT))) B= @Bool.rec (λY=>RB) (RB.ok false B) (Hj (xN 7) A acT B) (aC (aO A) (aO acT)):=λA acT B=>rfl;have hlen:aO (aU (hM bs))=aO (aU (ds.map V.sym)):=by rw[dD,dD,hM,bx,bx,←h,bx]
 rw[e3,hlen,jY];exact e1 bC o'
theorem Lu(h:I[j]? =some (.list .nil)):br (fy .eq (.lst .nil) (.loc j)) I true I:=by
 refine(bA [] [] trivial (λbC o'=>?_));have e:fy .eq (.lst .nil) (.loc j) ⟨I,[] ++bC,o'⟩=xM (xN 7) .nil (dF (e_ I j)) ⟨I,bC,o'⟩:=rfl;refine ah e (ah (bM h) ?_);rfl
theorem Dq{i j:Int}(h0:0≤i)(h1:i<100000)(h2:0≤j)(h3:j<100000):ae (wY 1 (.cons (.sym i) (.cons (.sym j) .nil))) I (.om i j 1) I:=by
 have h:ek (mid i) (mid j)=true:=by refine ah (oZ (by omega) (by omega)) (ah (oZ (by omega) (by omega)) ?_);rfl
 exact⟨[],[ek (mid i) (mid j)=true],⟨h,trivial⟩,λbC o'=>by kernel_rfl⟩
end
set_option backward.match.sparseCases false
noncomputable section
noncomputable def QJ(x:V):V:=match x with|.tup (.cons _ (.cons (.ak s) .nil))=>.ak (32::s)|_=>.none
noncomputable abbrev evB(a:Nat)(k acV:V)(e:Env):Env:=.cons aB (.sym (ab a)) (.cons fU k (.cons fT acV e))
end
section
variable{K:Kc}{I:List O}{n a:Nat}{os:List Ord}{mm:Nat->Int}{c:Bool}
theorem G5:∀(os:List Ord)(a:Nat),(dU a os).map QJ=(os.map λo=>32::o.txt).map V.ak:=by
 intro zr
 induction zr with
 |nil=>
  exact @λ_=>rfl
 |cons o os bN=>
  exact @λa=>by
   rw[dU,dB,bN (a+o.many)];rfl
theorem Lv(a:Nat): [32,79,82,71,32] ++fS (ab a)=32::(eX a).txt:=by
 show _=32::([79,82,71] ++[32] ++(fS (ab a)++[]));rw[cM];rfl
theorem Lw(hm:∀i,0≤mm i/\mm i<256)(ha:a<65000)(sY:iu mm a os)(hl:os.length≤50)(hs:a+fL os<65536)(acQ:fL os≤300):
  ∃bK,au (ZA (KW (n+2)) (evB a (oV c (ab os.length)) (.lst (mem mm)) .nil)) [] (.ret (.bool true)) bK:=by
 have Vx:∀(I:List O)(a:Nat)(o:Ord),mq mm a o->ae (KW (n+2) 26 (.cons (.lst (mem mm)) (.cons (.sym (ab a)) .nil))) I (.tup (.cons (.ak o.txt) (.cons (.sym (ab o.many)) .nil))) I:=λI a o h=>by
  refine ah (kw (g:=gm Z1) (k:=n+1) rfl) ?_;exact eO (E9 h)
 have h27:∀{I:List O},ae (KW (n+2) 27 (.cons (.lst (mem mm)) (.cons (.sym (ab a)) (.cons (oV c (ab os.length)) .nil)))) I (.tup (.cons (.lst (aU (dU a os))) (.cons (.sym (ab (a+fL os))) .nil))) I:=λ{I}=>by
  refine ah (kw (g:=gm R27) (k:=n+1) rfl) ?_;exact eO (Lo sY hs hl)
 refine a6 (O3 hm (a:=a) (by omega) sY hl) λdP lis acz KQ=>?_
 have acA:∀{I:List O},ae (KW (n+2) 126 (.cons (.ak (O2 a os)) .nil)) I (BI dP lis) I:=λ{I}=>by
  refine ah (kw (g:=gm Vw) (k:=n+1) rfl) ?_;exact eO acz
 refine bc (G2 (K:=KW (n+2)) (at':=.sym (ab a)) (k:=oV c (ab os.length)) Vx (kk:=ab os.length) os a 0 turns .nil .nil sY (by rw[d8];rfl) (by show os.length<600;omega) rfl (by show 0+os.length≤1000;omega) (.inl rfl)) λxF r=>?_;have Wb:a_ .nil (aU (dU a os))=aU (dU a os):=rfl;rw[Wb] at r
 let ls:List S:=os.map λo=>32::o.txt
 let S1:List O:=[.list (aU (dU a os))]
 let S2:List O:=S1++[.list (aU [V.ak (32::(eX a).txt)])]
 let S3:List O:=S2++[.list (aU (ls.map V.ak))]
 let S4:List O:=S3++[.list (aU ((iw a os).map V.ak))]
 have aap:(e6 a (fL os)).map (λi=>mm (i % 256))=(cy (fL os)).map λk=>mm ((a+k)% 256):=by
  refine ah List.range'_eq_map_range (ah fM ?_);rfl
 let S5:List O:=S4++[.list (aU (((e6 a (fL os)).map λi=>mm (i % 256)).map V.sym))]
 refine aL (Ln (K:=KW (n+1)) (I:=S5++[.list .nil]) (lis:=lis) KQ (by rw[bx,List.length_range'];omega)) λbs rc hbs=>?_;have hlen:(iw a os).length=os.length+1:=by simp[iw]
 have Ui:((ab (a+fL os)) - ab a).toNat=fL os:=by
  show(((a+fL os:Nat):Int) - (a:Int)).toNat=_;lia
 refine⟨(S5++[.list .nil])++[.list (aU (hM bs))],?_⟩;refine kr (hH (ai (lu (I:=[])) (ai (aI rfl) aF)) rfl) (ε₁:=Vy (.sym (ab a)) (oV c (ab os.length)) (.lst (mem mm)) a .nil) (λh o=>rfl) ?_;refine wJ (σ₂:=S1) (fj (ai (aI rfl) aF) (sP (b9 _) (by show(os.length:Int)<100000;omega))) r ?_;refine bU (bu (eG (ai (aI rfl) (ai (aI rfl) (ai (aI rfl) aF))) h27) (hH (ai (aI rfl) (ai (aI rfl) aF)) rfl) (G3 (I:=S1) (i:=0) rfl)) ?_
 let ε3:Env:=Vy (.sym (ab a)) (oV c (ab os.length)) (.lst (mem mm)) (a+fL os) xF
 have hdl:(fS (ab a)).length≤5:=pq (b9 a) (by show(a:Int)<65536;omega)
 have aaq:ae (j7 [12640,kW,bY] (et .add (cC (.str [32])) (cV bY)) (gK [kW,bY]) (cV gB) (KW (n+2)) ε3) S2 (.loc 2) S3:=by
  have h:=comp_map (K:=KW (n+2)) (I:=S2) (v:=.loc 0) (x:=et .add (cC (.str [32])) (cV bY)) (t:=gK [kW,bY]) (E:=jn [12640,kW,bY] ε3) (l:=dU a os) (λx=>x) QJ (by rw[List.map_id'];exact y5 rfl) (by rw[xJ];omega) λx hx=>by
   obtain⟨i,hi,e⟩:=jP hx;refine Mg (sQ os a i x (ah (eZ hi) (ah e rfl))) λa' s ot=>?_;subst ot;refine(aQ _ (λY Y=>rfl) ?_)
   have hs:s.length≤80:=by
    have gen:∀(os:List Ord)(a:Nat),iu mm a os->∀(i:Nat)(a':Int)(s:S),(dU a os)[i]? =some (V.tup (.cons (.sym a') (.cons (.ak s) .nil)))->s.length≤80:=by
     intro os
     induction os with
     |nil=>intro a _ i a' s h;exact nomatch h
     |cons o os ih=>
      intro a ho i a' s h
      induction i using dM with
      |zero=>cases h;exact(yV ho.1.fit).2
      |succ i=>exact ih (a+o.many) ho.2.2 i a' s (by simpa [dU] using h)
    exact gen os a sY i a' s (ah (eZ hi) (ah e rfl))
   exact cn bV (aI (bf _ _ _)) (wo (x:=[32]) (y:=s) rfl rfl rfl (by refine ah dA ?_;show 1+s.length≤_;lia))
  rw[G5,ew,fg] at h;exact oU (aI rfl) h
 have aar:ae (lU .join (.str [10]) (.cons (.loc 3) .nil)) S4 (.ak (O2 a os)) S4:=Lr (i:=3) (x:=32::(eX a).txt) (ls:=ls) rfl (by
  have:=sO (iw a os) λp hp=>(wR (by omega) sY p hp).2;show(hJ (iw a os)).length≤_;lia)
 refine d5 (v:=BI dP lis) (σ₁:=S4) (eG (ai (J6 (σ₁:=S1) (σ₂:=S4) bV (λY Y=>rfl) (ai (cn (x:=.loc 3) (Ku (σ₁:=S1) (ai (v:=.ak (32::(eX a).txt)) (cn bV (fj (ai (aI rfl) aF) (tJ (b9 a) (by show(a:Int)<65536;omega))) ?_) aF) rfl) aaq ?_) aF) aar) aF) acA) ?_
 ·rw[←Lv];exact wo rfl rfl rfl (by refine ah dA ?_;show 5+_≤_;omega)
 ·have:=add_lists (I:=S3) (i:=1) (j:=2) (l:=aU [V.ak (32::(eX a).txt)]) (m:=aU (ls.map V.ak)) rfl rfl (by rw[fH,dD,dD,bx,bx];show 1+os.length≤_;omega);rw[rR] at this;exact this
 let ε4:Env:=eS ε3 j3 (BI dP lis)
 have acB:ae (j7 [12640,kW] (h_ (cV fT) (et .mod (cV kW) (cC (.int (.ofNat 256))))) (iX kW) (jE 1 (aH (cV aB) (aH (cV 1739030440) ck))) (KW (n+2)) ε4) S4 (.loc 4) S5:=by
  have h:=comp_map (K:=KW (n+2)) (I:=S4) (v:=.om (ab a) (ab (a+fL os)) 1) (x:=h_ (cV fT) (et .mod (cV kW) (cC (.int (.ofNat 256))))) (t:=iX kW) (E:=jn [12640,kW] ε4) (l:=cy (fL os)) (λk=>.int (ab a+ab k)) (λk=>.sym (mm ((a+k)% 256))) (by
   have:=Ls (I:=S4) (b:=ab a) (e:=ab (a+fL os)) (by show(a:Int)≤((a+fL os:Nat):Int);omega);rw[Ui] at this;exact this) (by refine ah nU ?_;omega) λk hk=>by
   refine(aQ _ (λY Y=>rfl) ?_)
   have hz:bw (ab a+ab k) 256=ab ((a+k)% 256):=by
    refine ah (nK _ (by decide)) ?_;show((a:Int)+(k:Int))% 256=(((a+k)% 256:Nat):Int);lia
   refine fi (v:=.lst (mem mm)) (w:=.int (ab ((a+k)% 256))) (aI rfl) (cn (v:=.int (ab a+ab k)) (aI (bf _ _ _)) bV (ae.to ae.ok λB=>?_)) (Vz (mm:=mm) (b9 _) (by show(((a+k)% 256:Nat):Int)<256;omega));show RE.ok (.int (bw (ab a+ab k) 256)) B=_;exact ah hz rfl
  rw[ew,fg] at h
  have e:S5=S4++[O.list (aU ((cy (fL os)).map λk=>.sym (mm ((a+k)% 256))))] :=by
   show S4++_=_;refine ah aap (ah fM ?_);rfl
  refine ah e ?_;exact oU (fj (ai (aI rfl) (ai (aI rfl) aF)) (Dq (b9 a) (by show(a:Int)<100000;omega) (b9 _) (by show((a+fL os:Nat):Int)<100000;omega))) h
 refine d5 (v:=.loc 4) (σ₁:=S5) acB ?_;refine ef (v:=.bool true) (g_ (σ₁:=S5++[.list .nil]) (bu (v:=.lst .nil) (w:=.loc 5) (σ₁:=S5) (σ₂:=S5++[.list .nil]) (px (c:=6) (aI ((aG _ _ _ _ (by decide)).trans (bf _ _ _))) rfl) lu (Lu (j:=5) rfl)) (bu (v:=.loc 6) (w:=.loc 4) (σ₁:=(S5++[.list .nil])++[.list (aU (hM bs))]) (σ₂:=(S5++[.list .nil])++[.list (aU (hM bs))]) (eG (ai (aI ((aG _ _ _ _ (by decide)).trans (bf _ _ _))) aF) ?_) (aI (bf _ _ _)) (G4 (bs:=bs) (i:=6) (j:=4) rfl rfl hbs)));refine ah (kw (g:=aq U1) (k:=n+1) rfl) ?_;exact rc
end
set_option backward.match.sparseCases true
theorem Fu{mm:Nat->Int}(hm:∀i,0≤mm i/\mm i<256):∀(k a:Nat),a+4 * k≤65536->∃os:List Ord,os.length=k/\iu mm a os/\fL os≤4 * k
 |0,a,_=>(bS [] rfl trivial (fN _))
 |k+1,a,h=>by
  refine bc (Vb hm a) λo ho=>?_
  have h4:o.many≤4:=by
   have hk:=ho.known;simp only[wz,cK] at hk;exact eB hk.2.2.2.2.1
  refine bQ (Fu hm k (a+o.many) (by lia)) λos e h1 h2=>?_;refine⟨o::os,by exact ah ey (ah e rfl),⟨ho,by exact dR (iR _ _) (by assumption),h1⟩,?_⟩;show o.many+fL os≤_;lia
set_option backward.match.sparseCases false
noncomputable section
noncomputable def sR(E:Env)(I:List O)(x:Nat)(w:V):Prop:=∃v v',a8 E x=.ok v/\cZ 8 ⟨I,[],[]⟩ v=.ok v'/\jc v' w
noncomputable def G6(I:List O)(r:RS):RS:=match r with|.ret (.bool b) ⟨_,h,o⟩=>.ret (.bool b) ⟨I,h,o⟩|_=>.no
noncomputable def O7(x y z:Nat)(b:CS):CS:=λK E B=>match B with
 |⟨I,u::v::w::hs,ob⟩=>G6 I (b K (.cons x u (.cons y v (.cons z w .nil))) ⟨[],hs,(sR E I x u/\sR E I y v/\sR E I z w)::ob⟩)
 |_=>.no
end
section
variable{X:Cx}{n:Nat}{nm:Nm}{x y z:Nat}{b:CS}{st:List PySem.Stmt}{K:Kc}{E:Env}{I bK:List O}{u v w:V}
theorem O8{r:RS}(h:qa (G6 I r)):∃t ao,r=.ret (.bool t) ao/\Ok ao/\G6 I r=.ret (.bool t) ⟨I,ao.hin,ao.nj⟩:=by
 induction r with
 |ret v ao=>
  induction v using V.casesOn with
  |bool t=>obtain⟨s,hh,o⟩:=ao;exact dy t _ rfl h rfl
  |_=>exact h.elim
 |_=>exact h.elim
theorem Lx{k:Nat}{q:V}(h:a8 (.cons x u (.cons y v (.cons z w .nil))) k=.ok q)(h1:sR E I x u)(h2:sR E I y v)(h3:sR E I z w):sR E I k q:=by
 have e:∀(a:Nat)(t:V)(r:Env),a8 (.cons a t r) k=bif aC a k then OV.ok t else a8 r k:=λa t r=>by
  show @Bool.rec (λY=>OV) _ _ _=_
  cases aC a k<;>rfl
 rw[e] at h;refine cBool (aC x k) (λhx=>?_) (λhx=>?_);rotate_left
 ·replace h:=hx▸h;(injection h with g1;subst g1);refine eV (eJ hx) ?_;exact h1
 ·replace h:=hx▸h;have h:a8 (.cons y v (.cons z w .nil)) k=.ok q:=h;rw[e] at h;refine cBool (aC y k) (λhy=>?_) (λhy=>?_);rotate_left
  ·replace h:=hy▸h;(injection h with g1;subst g1);refine eV (eJ hy) ?_;exact h2
  ·replace h:=hy▸h;have h:a8 (.cons z w .nil) k=.ok q:=h;rw[e] at h;refine cBool (aC z k) (λhz=>?_) (λhz=>?_);rotate_left
   ·replace h:=hz▸h;(injection h with g1;subst g1);refine eV (eJ hz) ?_;exact h3
   ·replace h:=hz▸h;exact absurd h nO
theorem aas(hb:Sq X n nm st b):Sq X n nm st (O7 x y z b):=λK hK E B o=>by
 obtain⟨I,hh,ob⟩:=B
 rcases hh with _|⟨u,_|⟨v,_|⟨w,hs⟩⟩⟩
 ·exact o.elim
 ·exact o.elim
 ·exact o.elim
 refine bJ (O8 (show qa (G6 I _) from o)) λt ao e o' e'=>?_;refine aD (hb K hK (.cons x u (.cons y v (.cons z w .nil))) ⟨[],hs,_⟩ (by refine ah e ?_;exact o')) λIc g=>?_;obtain⟨⟨h1,h2,h3⟩,o0⟩:=Ic;refine⟨o0,λenv A N M s hn rm f rd rn=>?_⟩;have Hf:R0 X [] N [] s.heap:=⟨rd.base,rfl,jw,λa m=>(nomatch m),λa m=>rd.low a (a0 _ (by rw[show foot ([] :List Lc)=[] from rfl,cM] at m;exact m)),rd.live⟩;have nn:N++foot [] =N:=cM N
 have tr:∀{k:Nat}{q:V},a8 (.cons x u (.cons y v (.cons z w .nil))) k=.ok q->∃v0,a8 E k=.ok v0/\∀u',VR X s.heap (N++foot M) M v0 u'->VR X s.heap (N++foot []) [] q u':=λ{k q} h=>by
  refine bJ (Lx h h1 h2 h3) λv0 v1 a1 a2 a3=>?_;exact⟨v0,a1,λu' q'=>by refine ah nn ?_;exact a3 _ _ _ _ _ (Jy (B:=⟨I,[],[]⟩) rd 8 _ _ _ a2 q')⟩
 have rn0:Rn X env (.cons x u (.cons y v (.cons z w .nil))) N [] s.heap:=by
  obtain⟨⟨m,b1,b2⟩,b3,b4⟩:=rn;refine⟨(aQ m b1 (λnx q a l c=>?_)),b3,λnx q a l c=>?_⟩
  ·refine aL (tr l) λv0 l0 q0=>?_;refine aL (b2 nx v0 a l0 c) λu' m' q'=>?_;exact aQ u' m' (q0 u' q')
  ·refine aL (tr l) λv0 l0 q0=>?_;refine bJ (b4 nx v0 a l0 c) λc' u' m1 m2 q'=>?_;exact dy c' u' m1 m2 (q0 u' q')
 refine aA (g env A N [] s hn rm f Hf rn0) (λfl s' p=>?_) λY Y e=>e;show PS X (own env) env N M s (G6 I _) fl s';refine ah e' ?_;replace p:=e▸p
 induction fl<;>first|exact p.elim|skip
 refine bQ p λaK g' r' q'=>?_;clear p;have keep:∀b o,b∉own env->s.heap.get? b=some o->s'.heap.get? b=some o:=λb o m e=>g'.keep b o (λq=>nomatch q) m e;exact bS M ⟨λb o Y m e=>keep b o m e,λb m q=>absurd m q,λY Y e=>e,g'.gens,g'.os⟩ (rd.chg (λb o m e=>keep b o (λq=>m (fA f q)) e) r'.live) q'
theorem O9{σ₂:List O}{t:Bool}(h1:sR E I x u)(h2:sR E I y v)(h3:sR E I z w)(h:au (b K (.cons x u (.cons y v (.cons z w .nil)))) [] (.ret (.bool t)) σ₂):au (O7 x y z b K E) I (.ret (.bool t)) I:=by
 refine a6 h λhs ob po e=>?_;clear h;refine(bA (u::v::w::hs) (ob++[sR E I x u/\sR E I y v/\sR E I z w]) (AllP.app po ⟨(bL h1 h2 h3),trivial⟩) (λbC o'=>?_));show G6 I (b K _ ⟨[],hs++bC,_::o'⟩)=_;rw[e,bH];rfl
end
set_option backward.match.sparseCases true
noncomputable section
noncomputable abbrev jb(k:Int)(c:Nat)(b:Bool)(s:Int):V:=.cons (.int k) (.cons (.loc c) (.cons (oV b s) .nil))
noncomputable def o6(I:List O)(p:Nat)(l:V):Prop:=I[p]? =some (.list l)∨I[p]? =some (.du l)
end
section
variable{K:Kc}{I σ₁ σ₂ σ₃:List O}{p c n:Nat}{k s i j m:Int}{b d:Bool}{l v w:V}{E:Env}{a:C}{r:CS}{out:Out}
theorem ae.pre{f:Mm->RE}{q:Bool}(hq:q=true)(h:ae f I v σ₁):ae (λB=>f (Mine.Internal.m9 q B)) I v σ₁:=by
 refine a6 h λhs ob po e=>?_;clear h;refine(bA hs (ob++[q=true]) (AllP.app po ⟨hq,trivial⟩) (λbC o'=>?_));show f ⟨I,hs++bC,(q=true)::o'⟩=_;rw[e,bH];rfl
theorem O'{op:hV}{x y:V}(hk:BP op i j=true):ae (pJ op x y i j) I (VO op x y (binI op i j)) I:=by
 have e:pJ op x y i j=λB=>@Bool.rec (λY=>RE) (@Bool.rec (λY=>RE) (u5 op x y i j B) (u5 op x y i j (Mine.Internal.m9 (BP op i j) B)) (big op)) (@Bool.rec (λY=>RE) RE.no (u5 op x y i j B) (BP op i j)) (both x y):=rfl;refine ah e (ah hk ?_)
 cases both x y with
 |true=>exact ae.ok
 |false=>cases big op with
  |true=>exact ae.m9 rfl
  |false=>exact ae.ok
theorem fW{op:hV}(hj:zb op j=true)(hk:BP op i j=true):ae (rY op (oV b i) (oV d j)) I (oV (b&&d) (binI op i j)) I:=by
 have e:ae (z8 op (oV b i) (oV d j) i j) I (oV (b&&d) (binI op i j)) I:=by
  have h:=O' (op:=op) (x:=oV b i) (y:=oV d j) (I:=I) hk;have hv:VO op (oV b i) (oV d j) (binI op i j)=oV (b&&d) (binI op i j):=by induction b<;>induction d<;>rfl
  rw[hv] at h;have e:z8 op (oV b i) (oV d j) i j=λB=>@Bool.rec (λY=>RE) (pJ op (oV b i) (oV d j) i j (Mine.Internal.m9 (zb op j) B)) (@Bool.rec (λY=>RE) RE.no (pJ op (oV b i) (oV d j) i j B) (zb op j)) (Dz (oV d j)):=rfl;refine ah e (ah hj ?_)
  cases Dz (oV d j) with
  |true=>exact h
  |false=>exact ae.pre rfl h
 induction b<;>induction d<;>exact e
theorem fE(h:o6 I p l)(hj:BQ l (.ofNat n)=true)(g:eW l n=.ok v):ae (qX (.loc p) (.int (.ofNat n))) I v I:=by
 have VA:low (ab n)=true:=(cx hj).1
 rcases h with h|h
 ·refine ae.LR ae.ok λh' o'=>?_;show Ht (e_ I p) (.int (.ofNat n)) ⟨I,h',o'⟩=_;refine ah (bM h) ?_;show @Bool.rec (λY=>RE) RE.no (ze (eW l n) _) (low (ab n))=_;refine ah VA (ah g ?_);rfl
 ·have e:sZ l n=v:=by unfold sZ;exact ah g rfl
  refine(bA [] [BQ l (.ofNat n)=true] ⟨hj,trivial⟩ (λh' o'=>?_));show Ht (e_ I p) (.int (.ofNat n)) ⟨I,h',o'⟩=_;refine ah (bM h) ?_;show RE.ok (sZ l n) _=_;refine ah e ?_;rfl
theorem wV{o x:C}{l':V}(h:ae (a K E) I v σ₁)(ho:ae (o K E) σ₁ (.loc p) σ₂)(hx:ae (x K E) σ₂ (.int (.ofNat n)) σ₃)(hp:o6 σ₃ p l)(hj:BQ l (.ofNat n)=true)(g:m8 l n v=.ok l'){pR:List O}(k:au (r K E) (σ₃.set p (.du l')) out pR):au (bI (sV o x a) r K E) I out pR:=by
 refine au.seq (E:=E) (σ₁:=σ₃.set p (.du l')) (au.and h (au.and ho (au.and hx ?_))) k;have VA:low (ab n)=true:=(cx hj).1
 rcases hp with hp|hp
 ·refine(bA [] [] trivial (λh' o'=>?_));show pW E (DN p (e_ σ₃ p) (.int (.ofNat n)) v ⟨σ₃,h',o'⟩)=_;refine ah (bM hp) ?_;show pW E (@Bool.rec (λY=>RM) RM.no (PE p (m8 l n v) ⟨σ₃,h',o'⟩) (ek (low (ab n)) (mY 0 (ab n))))=_;refine ah VA (ah g ?_);show pW E (z_ (lT σ₃ p (.du l')) h' o')=_;refine ah (mW (bO hp)) ?_;rfl
 ·refine(bA [] [BQ l (.ofNat n)=true] ⟨hj,trivial⟩ (λh' o'=>?_));show pW E (DN p (e_ σ₃ p) (.int (.ofNat n)) v ⟨σ₃,h',o'⟩)=_;refine ah (bM hp) ?_;show pW E (z_ (lT σ₃ p (.du (w2 l n v))) h' _)=_;have e:w2 l n v=l':=by unfold w2;exact ah g rfl
  refine ah e (ah (mW (bO hp)) ?_);rfl
end
section
variable{K:Kc}{I:List O}{p c t:Nat}{k s m:Int}{b:Bool}{is:List Int}
theorem Dr{l:V}{n:Nat}(h:n<aO l)(h2:n<100000):BQ l (.ofNat n)=true:=by
 have h1:low (ab n)=true:=wq (by show(-1000:Int)< (n:Int);omega) (by show(n:Int)<100000;omega);show ek (low (ab n)) (ek (mY 0 (ab n)) (gI (ab n) (ab (aO l))))=true;rw[h1,eL,bj,decide_eq_true (show(0:Int)≤ab n from b9 n),decide_eq_true (show(ab n)<ab (aO l) from gR.mpr h)]
 rfl
theorem Fv(h:0<m):zb .mod m=true:=by
 show pT (rX m 0)=true;rw[iG,decide_eq_false (by omega)];rfl
theorem sS(hl:is.length≤40):bF (aU (is.map V.sym))=true:=by
 show bB (aO (aU (is.map V.sym))) 10000=true;rw[dD,bx];exact zO (by omega)
theorem BL(hk:k+1=ab t):ae (rY .add (.int k) (.int (.ofNat 1))) I (.int (.ofNat t)) I:=by
 have h:=fW (op:=.add) (b:=true) (d:=true) (i:=k) (j:=1) (I:=I) rfl rfl;have e:binI .add k 1=ab t:=hk;rw[e] at h;exact h
theorem G7(hb:o6 I p (jb k c b s))(hp:p<I.length)(hk:k+1=ab t)(hc:I[c]? =some (.list (aU (is.map V.sym))))(ne:c≠p)(hl:is.length≤40)(hm:0<m)(hW:t<is.length):
  ae (aq te K (.cons (.loc p) (.cons (.int m) .nil))) I (oV false (bw (fR is[t]) m)) (I.set p (.du (jb (.ofNat t) c b s))):=by
 have A2:o6 (I.set p (.du (jb (.ofNat t) c b s))) p (jb (.ofNat t) c b s):=.inr (get_eq hp);have hc1:(I.set p (.du (jb (.ofNat t) c b s)))[c]? =some (.list (aU (is.map V.sym))):=dX hc ne;refine ae.call (E:=.cons gD (.loc p) (.cons fU (.int m) .nil)) rfl ?_;refine wV (l:=jb k c b s) (n:=0) (σ₁:=I) (σ₂:=I) (σ₃:=I) (cn (fi (aI rfl) bV (fE (n:=0) hb rfl rfl)) bV (BL hk)) (aI rfl) bV hb rfl rfl ?_;refine kq (bu (q:=true) (fi (aI rfl) bV (fE (n:=0) A2 rfl rfl)) (fj (ai (fi (aI rfl) bV (fE (n:=1) A2 rfl rfl)) aF) (Fc hc1 (sS hl))) (wI λB=>?_)) ?_
 ·show RB.ok (gI (ab t) (ab (aO (aU (is.map V.sym))))) B=_;rw[dD,bx,bj,decide_eq_true (show ab t<ab is.length from gR.mpr hW)]
 ·refine ef (cn (v:=oV false (fR is[t])) (w:=oV true m) (fj (ai (v:=.sym is[t]) (fi (fi (aI rfl) bV (fE (n:=1) A2 rfl rfl)) (fi (aI rfl) bV (fE (n:=0) A2 rfl rfl)) (fE (p:=c) (n:=t) (.inl hc1) (Dr (by rw[dD,bx];exact hW) (by omega)) ?_)) aF) (ae.to ae.ok λB=>rfl)) (aI rfl) (fW (Fv hm) rfl));rw[mV,eI,eZ hW];rfl
theorem Ly(hb:o6 I p (jb k c b s))(hp:p<I.length)(hk:k+1=ab t)(hc:I[c]? =some (.list (aU (is.map V.sym))))(ne:c≠p)(ht:t<100000)(hs:0≤s/\s<2147483647)(hl:is.length≤40)(hm:0<m)(hW:¬t<is.length):
  ∃b' s',ae (aq te K (.cons (.loc p) (.cons (.int m) .nil))) I (oV (b'&&true&&true) (bw (lB s' 64) m)) (I.set p (.du (jb (.ofNat t) c b' s')))/\0≤s'/\s'<2147483647:=by
 have A2:o6 (I.set p (.du (jb (.ofNat t) c b s))) p (jb (.ofNat t) c b s):=.inr (get_eq hp);have hc1:(I.set p (.du (jb (.ofNat t) c b s)))[c]? =some (.list (aU (is.map V.sym))):=dX hc ne
 let s':Int:=bw (s * 48271+7919 * ab t+11) 2147483647
 let b':Bool:=((((b&&true)&&(true&&true))&&true)&&true)
 have acC:(I.set p (.du (jb (.ofNat t) c b s))).set p (.du (jb (.ofNat t) c b' s'))=I.set p (.du (jb (.ofNat t) c b' s')):=qD ..;have XD:o6 (I.set p (.du (jb (.ofNat t) c b' s'))) p (jb (.ofNat t) c b' s'):=.inr (get_eq hp);refine(dy b' s' (ae.call (E:=.cons gD (.loc p) (.cons fU (.int m) .nil)) rfl ?_) (nL _ (by decide)) (nP _ (by decide)));refine wV (l:=jb k c b s) (n:=0) (σ₁:=I) (σ₂:=I) (σ₃:=I) (cn (fi (aI rfl) bV (fE (n:=0) hb rfl rfl)) bV (BL hk)) (aI rfl) bV hb rfl rfl ?_;refine bU (bu (q:=false) (fi (aI rfl) bV (fE (n:=0) A2 rfl rfl)) (fj (ai (fi (aI rfl) bV (fE (n:=1) A2 rfl rfl)) aF) (Fc hc1 (sS hl))) (wI λB=>?_)) ?_
 ·show RB.ok (gI (ab t) (ab (aO (aU (is.map V.sym))))) B=_;rw[dD,bx,bj,decide_eq_false (show¬ab t<ab is.length fromλh=>hW (gR.mp h))]
 have m1:mid s=true:=oZ (by omega) (by omega);have m2:mid (ab t)=true:=oZ (by show(_:Int)< (t:Int);omega) (by show(t:Int)<_;omega);have k1:BP .mul s 48271=true:=by show ek (mid s) (mid 48271)=true;refine ah m1 ?_;rfl
 have k2:BP .mul 7919 (ab t)=true:=by show ek (mid 7919) (mid (ab t))=true;refine ah m2 ?_;rfl
 refine wV (v:=oV b' s') (l:=jb (.ofNat t) c b s) (n:=2) (cn (v:=oV (((b&&true)&&(true&&true))&&true) (s * 48271+7919 * ab t+11)) (w:=oV true 2147483647) (cn (v:=oV ((b&&true)&&(true&&true)) (s * 48271+7919 * ab t)) (w:=oV true 11) (cn (v:=oV (b&&true) (s * 48271)) (w:=oV (true&&true) (7919 * ab t)) (cn (v:=oV b s) (w:=oV true 48271) (fi (aI rfl) bV (fE (n:=2) A2 rfl rfl)) bV (fW rfl k1)) (cn (v:=oV true 7919) (w:=oV true (ab t)) bV (fi (aI rfl) bV (fE (n:=0) A2 rfl rfl)) (fW rfl k2)) (fW rfl rfl)) bV (fW rfl rfl)) bV (fW rfl rfl)) (aI rfl) bV A2 rfl rfl ?_;refine ah acC ?_;exact ef (cn (v:=oV (b'&&true) (lB s' 64)) (w:=oV true m) (cn (v:=oV b' s') (w:=oV true 64) (fi (aI rfl) bV (fE (n:=2) XD rfl rfl)) bV (fW rfl rfl)) (aI rfl) (fW (Fv hm) rfl))
theorem Lz(hb:o6 I p (jb k c b s))(hp:p<I.length)(hk:k+1=ab t)(hc:I[c]? =some (.list (aU (is.map V.sym))))(ne:c≠p)(ht:t<100000)(hs:0≤s/\s<2147483647)(hl:is.length≤40)(hm:0<m):
  ∃b' s' d x,ae (aq te K (.cons (.loc p) (.cons (.int m) .nil))) I (oV d x) (I.set p (.du (jb (.ofNat t) c b' s')))/\(0≤s'/\s'<2147483647)/\0≤x/\x<m:=by
 by_cases hW:t<is.length
 ·exact w3 b s _ _ (G7 hb hp hk hc ne hl hm hW) hs (nL _ hm) (nP _ hm)
 ·refine bJ (Ly (m:=m) (K:=K) hb hp hk hc ne ht hs hl hm hW) λb' s' r h1 h2=>?_;exact w3 b' s' _ _ r ⟨h1,h2⟩ (nL _ hm) (nP _ hm)
end
section
variable{K:Kc}{I σ₁ σ₂ σ₃:List O}{p c n:Nat}{k s i j m:Int}{b d:Bool}{l v w:V}{E:Env}
theorem Fw{bd:CS}{t:Tg}{l:List V}{P:Nat->Env->List O->Prop}(hd:∀j E I,P j E I->LS v I l)(hl:l.length≤500)
  (hb:∀j a E I,l[j]? =some a->P j E I->∃ε₁ cz σ₂,(∀h o,t a E ⟨I,h,o⟩=.ok ε₁)/\au (bd K ε₁) I (.dw cz) σ₂/\P (j+1) cz σ₂) (h0:P 0 E I):
  ∃eR bK,au (forL t v bd K turns 0 E) I (.dw eR) bK/\P l.length eR bK:=by
 have gen:∀(n j:Nat)(E:Env)(I:List O),P j E I->j≤l.length->l.length - j<n->∃eR bK,au (forL t v bd K n j E) I (.dw eR) bK/\P l.length eR bK:=by
  intro n
  induction n with
  |zero=>intro j _ _ _ _ h;exact absurd h (eA _)
  |succ n ih=>
   intro j E I hp hj hn;have key:∀h o,forL t v bd K (n+1) j E ⟨I,h,o⟩= @RD.rec (λY=>RS) RS.no (RS.dw E ⟨I,h,o⟩) (λy=>q7 bd K (t y E ⟨I,h,o⟩) ⟨I,h,o⟩ (forL t v bd K n (aZ j))) (drawn v j ⟨I,h,o⟩):=λh o=>rfl;refine kY (l[j]?) (λhg=>?_) (λa hg=>?_)
   ·have hle:l.length=j:=qF (iP.mp hg) hj;refine⟨E,I,(bA [] [] trivial (λbC o'=>?_)),by refine ah hle ?_;exact hp⟩;rw[key,hd j E I hp,hg];rfl
   ·have hW:j<l.length:=(cA.mp hg).1;refine eQ λkk=>?_;refine WS (hb j a E I hg hp) λε₁ cz σ₂ ht hr hp2=>?_;refine a6 (ih (j+1) cz σ₂ hp2 hW (by omega)) λeR bK r kf=>?_;refine a6 (au.loop (.inl hr) (k:=forL t v bd K n (aZ j)) r) λh1 o1 p1 e1=>?_;refine kk ?_;refine(bA eR bK (bA h1 o1 p1 (λbC o'=>?_)) kf);rw[key,hd j E I hp,hg];show q7 bd K (t a E ⟨I,_,o'⟩) _ _=_;rw[ht];exact e1 bC o'
 exact gen turns 0 E I h0 (fN _) (show l.length - 0<600 by exact dR (by assumption) (by decide))
theorem BM:∀(n:Nat)(l:List V),pH n (aU l)=aU (l.take n)
 |0,l=>by induction l using bE<;>rfl
 |n+1,[] =>rfl
 |n+1,a::l=>congrArg (V.cons a) (BM n l)
theorem LA(v:V):∀n:Nat,FH (.cons v .nil) n=aU (gV n v):=by
 intro zr
 induction zr with
 |zero=>
  exact rfl
 |succ n bN=>
  exact congrArg (V.cons v) (bN)
theorem Fx:∀(l:List V)(n:Nat)(v:V),n<l.length->m8 (aU l) n v=.ok (aU (l.set n v))
 | [],n,v,h=>absurd h (eA _)
 |a::l,0,v,_=>rfl
 |a::l,n+1,v,h=>by
  have e:m8 (aU (a::l)) (n+1) v=uX a (m8 (aU l) n v):=rfl;refine ah e (ah (Fx l n v (jy h)) ?_);rfl
noncomputable abbrev aat:CS:=bI (sV (cV gD) (cC (.int (.ofNat 2))) (et .mod (et .add (et .mul (h_ (cV gD) (cC (.int (.ofNat 2)))) (cC (.int (.ofNat 31)))) (jE 3 (aH (cV gX) ck))) (cC (.int (.ofNat 2147483647))))) fm
def G8(is:List Int)(t:Nat)(I:List O):Prop:=∃k b s,o6 I 2 (jb k 1 b s)/\k+1=ab t/\(0≤s/\s<2147483647)/\I[1]? =some (.list (aU (is.map V.sym)))
theorem tN(h:o6 I p l):p<I.length:=by rcases h with h|h<;>exact bO h
theorem O_{is:List Int}(hl:is.length≤40)(hp:G8 is 0 I)(h3:I.length=3)(he:a8 E gD=.ok (.loc 2)):
  ∃eR bK,au (forL (iX gX) (.loc 1) aat K turns 0 E) I (.dw eR) bK/\G8 is 0 bK/\bK.length=3/\a8 eR gD=.ok (.loc 2):=by
 obtain⟨eR,bK,r,q⟩:=Fw (K:=K) (t:=iX gX) (bd:=aat) (v:=.loc 1) (l:=is.map V.sym) (P:=λY E I=>G8 is 0 I/\I.length=3/\a8 E gD=.ok (.loc 2)) (λj E I ⟨⟨_,_,_,_,_,_,h⟩,_,_⟩=>y5 (bM h)) (by rw[bx];exact bb (by assumption) (bW _ _)) (λj a E I ha ⟨⟨k,b,s,hb,hk,hs,hc⟩,h3,he⟩=>by
  rw[eI] at ha;refine kY (is[j]?) (λhi=>?_) (λi hi=>?_)
  ·rw[hi] at ha;(injection ha)
  ·rw[hi] at ha;injection ha with g1;subst g1
   have k1:BP .mul s 31=true:=by
    show ek (mid s) (mid 31)=true;refine ah (oZ (by omega) (by omega)) ?_;rfl
   let s':Int:=bw (s * 31+fR i) 2147483647
   refine⟨eS E gX (.sym i),eS E gX (.sym i),_,λY Y=>rfl,wV (p:=2) (n:=2) (v:=oV (((b&&true)&&false)&&true) s') (l:=jb k 1 b s) (l':=jb k 1 (((b&&true)&&false)&&true) s') (cn (v:=oV ((b&&true)&&false) (s * 31+fR i)) (w:=oV true 2147483647) (cn (v:=oV (b&&true) (s * 31)) (w:=oV false (fR i)) (cn (v:=oV b s) (w:=oV true 31) (fi (aI ((aG _ _ _ _ (by decide)).trans he)) bV (fE (n:=2) hb rfl rfl)) bV (fW rfl k1)) (fj (ai (aI (bf _ _ _)) aF) (ae.to ae.ok λB=>rfl)) (fW rfl rfl)) bV (fW rfl rfl)) (aI ((aG _ _ _ _ (by decide)).trans he)) bV hb rfl rfl dx,(jh k _ s' (.inr (get_eq (lP ∘ iL<|(by assumption)))) hk ⟨nL _ (by decide),nP _ (by decide)⟩ (dX hc (by decide))),by refine ah ug ?_;exact h3,(aG _ _ _ _ (by decide)).trans he⟩) (E:=E) (I:=I) (bL hp h3 he)
 exact bA eR bK r q
end
noncomputable section
abbrev QK:CS:=bI (sV (cV fT) (et .mod (et .add (cV aB) (cV eb)) (cC (.int (.ofNat 256)))) (cV ec)) fm
abbrev QL:C:=u9 (gd .gt (cV 1874829752) (cC (.int (.ofNat 0)))) (gd .eq (et .mod (cV eb) (cC (.int (.ofNat 3)))) (cC (.int (.ofNat 0))))
abbrev aau:CS:=bI (m_ ec (h_ (B6 (aH (cC (.int (.ofNat 203))) (aH (cC (.int (.ofNat 221))) (aH (cC (.int (.ofNat 237))) (aH (cC (.int (.ofNat 253))) (aH (cV ec) ck)))))) (rZ 129 (aH (cV gD) (aH (cC (.int (.ofNat 5))) ck))))) fm
abbrev aav:CS:=bI (m_ ec (rZ 129 (aH (cV gD) (aH (cC (.int (.ofNat 256))) ck)))) (bI (B8 QL aau fm) QK)
def o7(v:V):Prop:=∃d x,v=oV d x/\0≤x/\x<256
structure lx(is:List Int)(A f:Int)(d1 d2:Bool)(t:Nat)(E:Env)(I:List O):Prop where
 box:G8 is t I
 nb:a8 E gD=.ok (.loc 2)
 na:a8 E aB=.ok (oV d1 A)
 nf:a8 E 1874829752=.ok (oV d2 f)
 nm:a8 E fT=.ok (.loc 3)
 mem:∃ml:List V,o6 I 3 (aU ml)/\ml.length=256/\∀v∈ml,o7 v
end
section
variable{K K':Kc}{I σ₁ σ₂ σ₃:List O}{p c n t:Nat}{k s i j m A f:Int}{b d d1 d2:Bool}{l v w:V}{E:Env}{is:List Int}{a:C}{r:CS}{out:Out}
theorem Fy(hp:G8 is t I)(ht:t<100000)(hl:is.length≤40)(hm:0<m):∃d x bK,ae (aq te K' (.cons (.loc 2) (.cons (.int m) .nil))) I (oV d x) bK/\G8 is (t+1) bK/\(0≤x/\x<m)/\(∀i,i≠2->bK[i]? =I[i]?)/\bK.length=I.length:=by
 refine kX hp λk b s hb hk hs hc=>?_;clear hp;refine Rf (Lz (K:=K') (m:=m) hb (tN hb) hk hc (by decide) ht hs hl hm) λb' s' d x r h1 h2=>?_;exact W0 d x _ r (jh _ b' s' (.inr (get_eq (tN hb))) rfl h1 (dX hc (by decide))) h2 (λi n=>ue (jC n)) ug
theorem FA{bK:List O}(h:o6 I p l)(e:bK[p]? =I[p]?):o6 bK p l:=by
 rcases h with h|h
 ·exact .inl (e.trans h)
 ·exact .inr (e.trans h)
theorem VB{o x:C}{l':V}(h:ae (a K E) I v σ₁)(ho:ae (o K E) σ₁ (.loc p) σ₂)(hx:ae (x K E) σ₂ (oV d (.ofNat n)) σ₃)(hp:o6 σ₃ p l)(hj:BQ l (.ofNat n)=true)(g:m8 l n v=.ok l'){pR:List O}(k:au (r K E) (σ₃.set p (.du l')) out pR):au (bI (sV o x a) r K E) I out pR:=by
 induction d with
 |true=>exact wV h ho hx hp hj g k
 |false=>
  refine au.seq (E:=E) (σ₁:=σ₃.set p (.du l')) (au.and h (au.and ho (au.and hx ?_))) k;refine(bA [] [BQ l (.ofNat n)=true] ⟨hj,trivial⟩ (λh' o'=>?_));have e:w2 l n v=l':=by unfold w2;exact ah g rfl
  show pW E (DN p (e_ σ₃ p) (.sym (.ofNat n)) v ⟨σ₃,h',o'⟩)=_
  rcases hp with hp|hp
  ·refine ah (bM hp) ?_;show pW E (z_ (lT σ₃ p (.du (w2 l n v))) h' _)=_;refine ah e (ah (mW (bO hp)) ?_);rfl
  ·refine ah (bM hp) ?_;show pW E (z_ (lT σ₃ p (.du (w2 l n v))) h' _)=_;refine ah e (ah (mW (bO hp)) ?_);rfl
theorem VC(h:o6 I p l)(hj:BQ l (.ofNat n)=true)(g:eW l n=.ok v):ae (qX (.loc p) (oV d (.ofNat n))) I v I:=by
 induction d with
 |true=>exact fE h hj g
 |false=>
  have e:sZ l n=v:=by unfold sZ;exact ah g rfl
  refine(bA [] [BQ l (.ofNat n)=true] ⟨hj,trivial⟩ (λh' o'=>?_));show Ht (e_ I p) (.sym (.ofNat n)) ⟨I,h',o'⟩=_
  rcases h with h|h
  ·refine ah (bM h) ?_;show RE.ok (sZ l n) _=_;refine ah e ?_;rfl
  ·refine ah (bM h) ?_;show RE.ok (sZ l n) _=_;refine ah e ?_;rfl
theorem mem_set(hA:0≤A){x:V}{q:Nat}(h:lx is A f d1 d2 t E I)(hx:o7 x)(ho:a8 E ec=.ok x)(hj:a8 E eb=.ok (.int (ab q))):∃bK,au (QK K E) I (.dw E) bK/\lx is A f d1 d2 t E bK:=by
 refine bQ h.mem λml hm VD td=>?_;obtain⟨z,hz⟩:∃z:Nat,bw (A+ab q) 256=ab z:=fX (nL _ (by decide))
 have hz2:z<256:=by
  have h0:=nP (A+ab q) (b:=256) (by decide);rw[hz] at h0;exact gR.mp h0
 have hi:ae (et .mod (et .add (cV aB) (cV eb)) (cC (.int (.ofNat 256))) K E) I (oV ((d1&&true)&&true) (.ofNat z)) I:=by
  have:=cn (K:=K) (E:=E) (I:=I) (σ₁:=I) (σ₂:=I) (σ₃:=I) (a:=et .add (cV aB) (cV eb)) (b:=cC (oV true 256)) (v:=oV (d1&&true) (A+ab q)) (w:=oV true 256) (cn (v:=oV d1 A) (w:=oV true (ab q)) (aI h.na) (aI hj) (fW rfl rfl)) bV (fW (op:=.mod) rfl rfl);have e:binI .mod (A+ab q) 256=ab z:=hz;rw[e] at this;exact this
 refine⟨_,VB (p:=3) (n:=z) (aI ho) (aI h.nm) hi hm (Dr (by rw[dD];omega) (by omega)) (Fx ml z x (by omega)) dx,?_,h.nb,h.na,h.nf,h.nm,ml.set z x,.inr (get_eq (tN hm)),by refine ah ug ?_;exact VD,λv hv=>?_⟩
 ·refine kX h.box λk b s hb hk hs hc=>?_;exact jh k b s (FA hb (ue (by decide))) hk hs (dX hc (by decide))
 ·rcases zF hv with hv|rfl
  ·exact td v hv
  ·exact hx
theorem LB{q:Nat}(h:lx is A f d1 d2 t E I)(hj:a8 E eb=.ok (.int (ab q))):∃q,ae (QL K E) I (.bool q) I:=by
 have h1:ae (gd .gt (cV 1874829752) (cC (.int (.ofNat 0))) K E) I (.bool (BZ f 0)) I:=by
  refine bu (aI h.nf) bV ?_
  induction d2 with
  |true=>exact br.sure (I:=I) (y:=true) (b:=BZ f 0)
  |false=>exact br.sure (I:=I) (y:=false) (b:=BZ f 0)
 have h2:∃q2,ae (gd .eq (et .mod (cV eb) (cC (.int (.ofNat 3)))) (cC (.int (.ofNat 0))) K E) I (.bool q2) I:=by
  refine⟨rX (bw (ab q) 3) 0,bu (v:=.int (bw (ab q) 3)) (w:=.int 0) (cn (v:=oV true (ab q)) (w:=oV true 3) (aI hj) bV (fW (op:=.mod) (b:=true) (d:=true) rfl rfl)) bV (wI λB=>rfl)⟩
 refine bc h2 λq2 h2=>?_;refine cBool (BZ f 0) (λhg=>?_) (λhg=>?_);rotate_left
 ·rw[hg] at h1;exact⟨q2,g_ h1 h2⟩
 ·rw[hg] at h1;exact⟨false,iJ h1⟩
theorem lx.put{x:Nat}(h:lx is A f d1 d2 t E I)(h1:x≠gD)(h2:x≠aB)(h3:x≠1874829752)(h4:x≠fT):lx is A f d1 d2 t (eS E x v) I:=
 ⟨h.box,(aG _ _ _ _ h1).trans h.nb,(aG _ _ _ _ h2).trans h.na,(aG _ _ _ _ h3).trans h.nf,(aG _ _ _ _ h4).trans h.nm,h.mem⟩
end
section
variable{K K':Kc}{I σ₁ σ₂ σ₃:List O}{p c n t:Nat}{k s i j m A f:Int}{b d d1 d2:Bool}{l v w:V}{E:Env}{is:List Int}{a:C}{r:CS}{out:Out}
theorem lx.ext{ob:O}(h:lx is A f d1 d2 t E I):lx is A f d1 d2 t E (I++[ob]):=by
 obtain⟨⟨k,b,s,hb,hk,hs,hc⟩,nb,na,nf,nm,ml,hm,h1,h2⟩:=h;refine⟨(jh k b s ?_ hk hs (bq hc)),nb,na,nf,nm,ml,?_,h1,h2⟩
 ·rcases hb with hb|hb;exact .inl (bq hb);exact .inr (bq hb)
 ·rcases hm with hm|hm;exact .inl (bq hm);exact .inr (bq hm)
theorem QM(wW:K 129=aq te K')(h:lx is A f d1 d2 t E I)(ht:t<100000)(hl:is.length≤40)(hm:0<m):∃d x bK,ae (rZ 129 (aH (cV gD) (aH (cC (.int m)) ck)) K E) I (oV d x) bK/\lx is A f d1 d2 (t+1) E bK/\(0≤x/\x<m)/\(∀i,i≠2->bK[i]? =I[i]?):=by
 refine eQ λkk=>?_;refine HL (Fy (K':=K') (m:=m) h.box ht hl hm) λd x bK r hb hx hs Y=>?_;refine bQ h.mem λml hml h1 h2=>?_;refine kk ?_;exact jh d x bK (eG (ai (aI h.nb) (ai bV aF)) (by refine ah wW ?_;exact r)) ⟨hb,h.nb,h.na,h.nf,h.nm,ml,FA hml (hs 3 (by decide)),h1,h2⟩ hx hs
theorem BN{x:Int}(h0:0≤x)(h1:x<256):o7 (.int x):=(dy true x rfl h0 h1)
theorem Pa(wW:K 129=aq te K')(h:lx is A f d1 d2 t E I)(ht:t<100000)(hl:is.length≤40){x:V}(hx:o7 x)(ho:a8 E ec=.ok x):
  ∃y bK,o7 y/\au (aau K E) I (.dw (eS E ec y)) bK/\lx is A f d1 d2 (t+1) E bK:=by
 let l5:V:=.cons (.int (.ofNat 203)) (.cons (.int (.ofNat 221)) (.cons (.int (.ofNat 237)) (.cons (.int (.ofNat 253)) (.cons x .nil))))
 refine eQ λkk=>?_;refine kX (QM (m:=5) wW (h.ext (ob:=.list l5)) ht hl (by decide)) λd y bK r hp hy hs=>?_;refine bc (fX hy.1) λy vJ=>?_;subst vJ;refine kk ?_;have hy5:y<5:=gR.mp hy.2
 obtain⟨v,hv,hg⟩:∃v,o7 v/\eW l5 y=.ok v:=by
  match y,hy5 with
  |0,_=>exact aQ _ (BN (by decide) (by decide)) rfl
  |1,_=>exact aQ _ (BN (by decide) (by decide)) rfl
  |2,_=>exact aQ _ (BN (by decide) (by decide)) rfl
  |3,_=>exact aQ _ (BN (by decide) (by decide)) rfl
  |4,_=>exact aQ x hx rfl
  |y+5,h=>exact absurd h (by lia)
 refine bQ h.mem λml hml Y Y=>?_;have h3:3<I.length:=tN hml;have oM:o6 bK I.length l5:=.inl ((hs I.length (by omega)).trans bR);refine(dy v bK hv (d5 (fi (v:=.loc I.length) (Ku (ai bV (ai bV (ai bV (ai bV (ai (aI ho) aF))))) rfl) r (VC oM (Dr (show y<5 from hy5) (by omega)) hg)) dx) hp)
theorem LC(wW:K 129=aq te K')(h:lx is A f d1 d2 3 E I)(hA:0≤A)(hl:is.length≤40){q:Nat}(hq:q≤100):
  ∃eR bK t,au (forL (iX eb) (.om 0 (ab q) 1) aav K turns 0 E) I (.dw eR) bK/\lx is A f d1 d2 t eR bK/\∀v,a8 E fU=.ok v->a8 eR fU=.ok v:=by
 have hlen:((cy q).map λk=>V.int (ab k)).length=q:=by rw[bx,nU]
 obtain⟨eR,bK,r,⟨t,_,hp⟩,hk⟩:=Fw (K:=K) (t:=iX eb) (bd:=aav) (v:=.om 0 (ab q) 1) (l:=(cy q).map λk=>V.int (ab k)) (P:=λj ε₁ I=>(∃t,t≤3+2 * j/\lx is A f d1 d2 t ε₁ I)/\∀v,a8 E fU=.ok v->a8 ε₁ fU=.ok v) (λj E I Y=>O4 (b9 q)) (by refine ah hlen ?_;lia) (λj a QN A1 ha ⟨⟨t,ht,hp⟩,aaw⟩=>by
  have hjq:j<q:=by
   have:=(cA.mp ha).1;rw[hlen] at this;exact this
  rw[eI,uf hjq] at ha;refine eQ λkk=>?_;injection ha with g1;subst g1
  have hp1:lx is A f d1 d2 t (eS QN eb (.int (ab j))) A1:=hp.put (by decide) (by decide) (by decide) (by decide);obtain⟨d,x,σ₁,r1,hp2,hx,_⟩:=QM (m:=256) wW hp1 (by omega) hl (by decide);refine kk ?_
  let cz:=eS (eS QN eb (.int (ab j))) ec (oV d x)
  have hp3:lx is A f d1 d2 (t+1) cz σ₁:=hp2.put (by decide) (by decide) (by decide) (by decide);have hj:a8 cz eb=.ok (.int (ab j)):=(aG _ _ _ _ (by decide)).trans (bf _ _ _);have hm2:∀v,a8 E fU=.ok v->a8 cz fU=.ok v:=λv hv=>(aG _ _ _ _ (by decide)).trans ((aG _ _ _ _ (by decide)).trans (aaw v hv));have hox:o7 (oV d x):=(dy d x rfl hx.1 hx.2);obtain⟨c,hc⟩:=LB (K:=K) hp3 hj
  induction c with
  |false=>
   obtain⟨σ₂,r2,Wg⟩:=mem_set (K:=K) hA hp3 hox (bf _ _ _) hj;exact jh _ cz σ₂ (λY Y=>rfl) (d5 r1 (bU hc r2)) ⟨t+1,by omega,Wg⟩ hm2
  |true=>
   refine eQ λkk=>?_;obtain⟨y,σ₂,hy,r2,Wg⟩:=Pa wW hp3 (by lia) hl hox (bf _ _ _);have hp5:lx is A f d1 d2 (t+1+1) (eS cz ec y) σ₂:=Wg.put (by decide) (by decide) (by decide) (by decide);obtain⟨σ₃,r3,hp6⟩:=mem_set (K:=K) hA hp5 hy (bf _ _ _) ((aG _ _ _ _ (by decide)).trans hj);refine kk ?_;exact(jh _ (eS cz ec y) σ₃ (λY Y=>rfl) (d5 r1 (rT hc r2 r3)) ⟨t+1+1,by omega,hp6⟩ (λv hv=>(aG _ _ _ _ (by decide)).trans (hm2 v hv)))) (E:=E) (I:=I) ⟨⟨3,by omega,h⟩,λv hv=>hv⟩
 exact abc eR bK t r hp hk
end
section
variable{K K':Kc}{I:List O}{is:List Int}{out:Out}{q:CS}
theorem QO{l:V}(h:bF l=true):ae (iV l) I (.loc I.length) (I++[.list l]):=(bA [] [] trivial (λbC o'=>by
 show @Bool.rec (λY=>RE) RE.no (jg (.list l) _) (bF l)=_;refine ah h ?_;show RE.ok (.loc (kB I)) ⟨mE I (.list l),bC,o'⟩=_;rw[ew,fg];rfl))
theorem G9{E:Env}(hl:is.length≤5000)(hs:a8 E jf=.ok (.lst (aU (is.map V.sym)))):ae (HI (cV jf) (cC (.int (.ofNat 40))) K E) [] (.loc 0) [.list (aU ((is.take 40).map V.sym))] :=by
 have tw:bF (aU (is.map V.sym))=true:=by
  show bB (aO (aU (is.map V.sym))) 10000=true;rw[dD,bx];exact zO (bb (by assumption) (bW _ _))
 have e:LK .no (.at (.ofNat 40)) (.lst (aU (is.map V.sym)))=iV (aU ((is.take 40).map V.sym)):=by
  funext B
  show @Bool.rec (λY=>RE) RE.no (iV (pH 40 (aU (is.map V.sym))) B) (ek (ek true true) (bF (aU (is.map V.sym))))=_;rw[tw,BM,List.map_take];rfl
 refine ae.and (aI hs) (ae.and (v:=.int (.ofNat 40)) (σ₁:=[]) bV ?_);show ae (LK .no (.at (.ofNat 40)) (.lst (aU (is.map V.sym)))) [] _ _;refine ah e ?_;exact QO (sS (by refine ah gp ?_;omega))
theorem Ds{E:Env}(hl:is.length≤5000)(hs:a8 (jn [12640,gX] E) jf=.ok (.lst (aU (is.map V.sym))))(bC:a8 E jf=.ok (.lst (aU (is.map V.sym)))):ae (j7 [12640,gX] (jE 7 (aH (cV gX) ck)) (iX gX) (HI (cV jf) (cC (.int (.ofNat 40)))) K E) [] (.loc 1) [.list (aU ((is.take 40).map V.sym)),.list (aU ((is.take 40).map V.sym))] :=by
 have h:=comp_map (K:=K) (I:=[.list (aU ((is.take 40).map V.sym))]) (v:=.loc 0) (x:=jE 7 (aH (cV gX) ck)) (t:=iX gX) (E:=jn [12640,gX] E) (l:=is.take 40) V.sym V.sym (y5 rfl) (by refine ah gp ?_;omega) λi Y=>
  (aQ (eS (jn [12640,gX] E) gX (.sym i)) (λY Y=>rfl) (fj (ai (aI (bf _ _ _)) aF) (ae.to ae.ok λB=>rfl)))
 exact oU (G9 hl bC) h
theorem Pb:bF (FH (.cons (.int (.ofNat 0)) .nil) 256)=true:=by rw[LA];show bB (aO _) 10000=true;rw[dD,zH];rfl
theorem LD(wW:K 129=aq te K')(hl:is.length≤5000)(go:∀E I A f d1 d2 d3 t X,(0≤A/\A<65000)->(0≤X/\X<7)->lx (is.take 40) A f d1 d2 t E I->a8 E fU=.ok (oV (true&&d3) (1+X))->∃bK,au (q K E) I out bK):∃bK,au (Zz q K (.cons jf (.lst (aU (is.map V.sym))) .nil)) [] out bK:=by
 have hjs:(is.take 40).length≤40:=by refine ah gp ?_;omega
 refine eQ λkk=>?_;refine iZ (O_ (K:=K) (E:=.cons jf (.lst (aU (is.map V.sym))) (.cons gD (.loc 2) .nil)) (I:=[.list (aU ((is.take 40).map V.sym)),.list (aU ((is.take 40).map V.sym)),.list (jb (-1) 1 true 0)]) hjs (jh (-1) true 0 (.inl rfl) rfl ⟨by decide,by decide⟩ rfl) rfl rfl) λε₁ σ₁ r1 hp1 LP A2=>?_;refine HL (Fy (K':=K') (m:=65000) hp1 (by decide) hjs (by decide)) λd1 A σ₂ r2 hp2 hA Y Ru=>?_;refine HL (Fy (K':=K') (m:=3) hp2 (by decide) hjs (by decide)) λd2 f σ₃ r3 hp3 hf Y hl3=>?_;refine HL (Fy (K':=K') (m:=7) hp3 (by decide) hjs (by decide)) λd3 X pR r4 Wg hX Y hl4=>?_;refine kk ?_;have hl5:pR.length=3:=by refine ah hl4 (ah hl3 (ah Ru ?_));exact LP
 let cz:=eS (eS (eS ε₁ aB (oV d1 A)) 1874829752 (oV d2 f)) fU (oV (true&&d3) (1+X))
 let QP:=eS cz fT (.loc 3)
 let FC:=pR++[.list (FH (.cons (.int (.ofNat 0)) .nil) 256)]
 have QQ:a8 QP fU=.ok (oV (true&&d3) (1+X)):=(aG _ _ _ _ (by decide)).trans (bf _ _ _)
 have hpm:lx (is.take 40) A f d1 d2 3 QP FC:=by
  refine kX Wg λk b s hb hk hs hc=>?_;clear Wg;refine⟨(jh k b s ?_ hk hs (bq hc)),?_,?_,?_,bf _ _ _,gV 256 (.int (.ofNat 0)),?_,zH,λv hv=>?_⟩
  ·rcases hb with hb|hb;exact .inl (bq hb);exact .inr (bq hb)
  ·exact(aG _ _ _ _ (by decide)).trans ((aG _ _ _ _ (by decide)).trans ((aG _ _ _ _ (by decide)).trans ((aG _ _ _ _ (by decide)).trans A2)))
  ·exact(aG _ _ _ _ (by decide)).trans ((aG _ _ _ _ (by decide)).trans ((aG _ _ _ _ (by decide)).trans (bf _ _ _)))
  ·exact(aG _ _ _ _ (by decide)).trans ((aG _ _ _ _ (by decide)).trans (bf _ _ _))
  ·have h:FC[3]? =some (.list (FH (.cons (.int (.ofNat 0)) .nil) 256)):=by refine eV hl5 ?_;exact bR
   rw[LA] at h;exact .inl h
  ·refine aD (List.mem_replicate.mp hv) λY vK=>?_;subst vK;exact BN (by decide) (by decide)
 obtain⟨n,hn⟩:∃n:Nat,4 * (1+X)=ab n:=fX (by omega)
 have hn2:n≤100:=by
  have h1:4 * (1+X)=(n:Int):=hn;omega
 refine eQ λkk=>?_;refine WS (LC wW hpm hA.1 hjs hn2) λaax aay t r5 hp6 hk=>?_;refine bc (go aax aay A f d1 d2 d3 t X hA hX hp6 (hk _ QQ)) λbK rq=>?_;refine kk ?_;refine⟨bK,?_⟩;refine d5 (v:=.loc 2) (Ku (σ₁:=[.list (aU ((is.take 40).map V.sym)),.list (aU ((is.take 40).map V.sym))]) (l:=jb (-1) 1 true 0) (ai (v:=.int (-1)) (ZG bV (ae.to ae.ok λB=>rfl)) (ai (v:=.loc 1) (Ds hl rfl rfl) (ai bV aF))) rfl) ?_;refine wJ (fi (aI rfl) bV (fE (n:=1) (p:=2) (l:=jb (-1) 1 true 0) (v:=.loc 1) (.inl rfl) rfl rfl)) r1 ?_;have dr:∀{m:Int}{d:Bool}{x:Int}{σa σb:List O}{E:Env},a8 E gD=.ok (.loc 2)->ae (aq te K' (.cons (.loc 2) (.cons (.int m) .nil))) σa (oV d x) σb->ae (rZ 129 (aH (cV gD) (aH (cC (.int m)) ck)) K E) σa (oV d x) σb:=λhe r=>eG (ai (aI he) (ai bV aF)) (by refine ah wW ?_;exact r);refine kr (v:=.tup (.cons (oV d1 A) (.cons (oV d2 f) (.cons (oV (true&&d3) (1+X)) .nil)))) (σ₁:=pR) (ε₁:=cz) (hH (ai (dr A2 r2) (ai (dr A2 r3) (ai (cn (v:=oV true 1) (w:=oV d3 X) bV (dr A2 r4) (fW rfl rfl)) aF))) rfl) (λY Y=>rfl) ?_;refine d5 (v:=.loc 3) (σ₁:=FC) (ae.and (ai bV aF) (by have:=QO (I:=pR) Pb;rw[hl5] at this;exact this)) ?_;refine wJ (v:=.om 0 (ab n) 1) (σ₁:=FC) (fj (ai (cn (v:=oV true 4) (w:=oV (true&&d3) (1+X)) bV (aI QQ) (fW rfl ?_)) aF) ?_) r5 rq
 ·show ek (mid 4) (mid (1+X))=true;refine ah (oZ (i:=1+X) (by omega) (by omega)) ?_;rfl
 ·refine eV hn ?_;exact sP (i:=4 * (1+X)) (by omega) (by omega)
end
set_option backward.match.sparseCases false
noncomputable section
noncomputable def Pc(v:V):Int:=match v with|.int i=>i|.sym i=>i|_=>0
noncomputable def Dt(ml:List V)(i:Nat):Int:=Pc (ml.getD i .none)
noncomputable def Pd:CS:=Zz (O7 aB fU fT ZA)
end
section
variable{I:List O}{is:List Int}{ml:List V}{p:Nat}{E:Env}{x:Nat}{d:Bool}{i:Int}
theorem FD:Pc (oV d i)=i:=by induction d<;>rfl
theorem QR:jc (oV d i) (.sym i):=by
 induction d with
 |true=>exact le_int
 |false=>exact jc.refl
theorem Du{n:Nat}{B:Mm}:cZ (n+1) B (oV d i)=.ok (oV d i):=by induction d<;>rfl
theorem FE(h:∀v∈ml,o7 v)(i:Nat):0≤Dt ml i/\Dt ml i<256:=by
 unfold Dt;refine ah (zI) ?_;refine kZ (ml[i]?) (λhi=>?_) (λv hi=>?_)
 ·exact⟨by decide,by decide⟩
 ·refine bJ (h v (jv hi)) λd x gY h0 h1=>?_;subst gY;show 0≤Pc (oV d x)/\Pc (oV d x)<256;refine ah FD ?_;exact⟨h0,h1⟩
theorem aaz{mm:Nat->Int}:∀(ml:List V)(k:Nat),(∀(i:Nat)(v:V),ml[i]? =some v->jc v (.sym (mm (k+i))))->gF (aU ml) (w6 mm ml.length k):=by
 intro zr
 induction zr with
 |nil=>
  exact @λk _=>gF.refl
 |cons v ml bN=>
  exact @λk h=>cP (h 0 v rfl) (bN (k+1) λi w hw=>by
   have:=h (i+1) w hw;rw[show k+(i+1)=k+1+i by exact(uq _ _).symm] at this;exact this)
theorem VE(h:∀v∈ml,o7 v)(h2:ml.length=256):gF (aU ml) (mem (Dt ml)):=by
 have:=aaz (mm:=Dt ml) ml 0 λi v hv=>by
  refine a6 (h v (jv hv)) λd x fF Y=>?_;subst fF
  have e:Dt ml (0+i)=x:=by
   unfold Dt;rw[d8,zI,hv];exact FD
  refine ah e ?_;exact QR
 rw[h2] at this;exact this
theorem LF{n:Nat}{B:Mm}:∀ml:List V,(∀v∈ml,o7 v)->bZ (cZ (n+1) B) (aU ml)=.ok (aU ml):=by
 intro zr
 induction zr with
 |nil=>
  exact @λ_=>rfl
 |cons v ml bN=>
  exact @λh=>by
   refine a6 (h v aW) λd x l_ Y=>?_;subst l_;have e:bZ (cZ (n+1) B) (aU (oV d x::ml))=dN (cZ (n+1) B (oV d x)) (bZ (cZ (n+1) B) (aU ml)) V.cons:=rfl;refine ah e (ah Du (ah (bN λw hw=>h w (aP _ hw)) ?_));rfl
theorem Pf(hm:o6 I p (aU ml))(h:∀v∈ml,o7 v):cZ 8 ⟨I,[],[]⟩ (.loc p)=.ok (.lst (aU ml)):=by
 show q8 (cZ 7 ⟨I,[],[]⟩) (e_ I p)=_
 rcases hm with hm|hm
 ·refine ah (bM hm) ?_;show gO (bZ (cZ 7 ⟨I,[],[]⟩)) V.lst (aU ml)=_;unfold gO;exact ah (LF ml h) rfl
 ·refine ah (bM hm) ?_;show gO (bZ (cZ 7 ⟨I,[],[]⟩)) V.lst (aU ml)=_;unfold gO;exact ah (LF ml h) rfl
theorem Pg{n:Nat}(hl:is.length≤5000):∃bK,au (Pd (KW (n+2)) (.cons jf (.lst (aU (is.map V.sym))) .nil)) [] (.ret (.bool true)) bK:=by
 have wW:KW (n+2) 129=aq te (KW (n+1)):=kw (g:=aq te) (k:=n+1) rfl;refine LD wW hl λE I A f d1 d2 d3 t X hA hX hp hk=>?_;refine bc (fX hA.1) λa i5=>?_;subst i5;obtain⟨k,hk7⟩:∃k:Nat,1+X=ab k:=fX (by omega);have ha:a<65000:=gR.mp hA.2
 have hk8:k≤7:=by
  have:1+X=(k:Int):=hk7;omega
 refine bQ hp.mem λml hml VD td=>?_;refine bQ (Fu (FE td) k a (by omega)) λos YZ x8 V3=>?_;refine bc (Lw (n:=n) (c:=true&&d3) (FE td) ha x8 (by omega) (by omega) (by omega)) λbK r=>?_;rw[YZ,←hk7] at r;exact⟨I,O9 (K:=KW (n+2)) (dy _ _ hp.na Du QR) (dy _ _ hk Du jc.refl) (dy _ _ hp.nm (Pf hml td) (yQ (VE td VD))) r⟩
end
set_option backward.match.sparseCases true
section
variable{X:Cx}{f:Nat}
theorem kT{m:Nat}{spec:V->OV}{pre:V->Prop}(hR:∀l w,spec l=.ok w->pre l->Of X m f λg=>fD g l w):sq X m f (yR spec pre):=λK' Zn l' B x ao e o=>by
 obtain⟨st,hh,ob⟩:=B;have e: @OV.rec (λY=>RE) RE.no (λw=>RE.ok w (ZL (pre l') ⟨st,hh,ob⟩)) (spec l')=.ok x ao:=e;refine Ml (spec l') (λhs=>?_) (λw hs=>?_)
 ·rw[hs] at e;exact absurd e nE
 ·rw[hs] at e
  cases e
  refine kX (hR _ _ hs o.1) λn' g K hm hg hK rel=>?_;exact CU hg hK hm K' Zn l' ⟨st,x::hh,ob⟩ x ⟨st,hh,fD (g K) l' x::ob⟩ rfl ⟨rel,o.2⟩
noncomputable abbrev kz(X:Cx):Prop:=cO (λi g=>∀m,sq X m i g) gQ λn=>n
noncomputable abbrev tf(X:Cx)(n:Nat)(t:Tr (Kc->V->Mm->RE)):Prop:=cO (λi g=>∀m,n≤m->sq X m i g) t λn=>n
theorem kz.at{g:Kc->V->Mm->RE}(h:kz X)(f:Nat)(e:Tr.get (λY Y Y=>RE.no) gQ f=g)(m:Nat):sq X m f g:=by
 have:=cO.get (P:=λi g=>∀m,sq X m i g) (d:=λY Y Y=>RE.no) (λf m=>Qs) f h m;rwa [e] at this
theorem kz.n(h:kz X)(n:Nat):tf X n gQ:=cO.imp (λY Y k m Y=>k m) h
theorem m7{t:Tr (Kc->V->Mm->RE)}{n n' f:Nat}{g:Kc->V->Mm->RE}{K:Kc}(h:tf X n t)(hg:sq X n' f g)(hK:KS X n' K)(hn:n'≤n):tf X n (gn t f (gm (fD (g K)))):=cO.set f h λm hm=>CU hg hK (bb hn hm)
theorem LG{t:Tr (Kc->V->Mm->RE)}{n n' f:Nat}{g:Kc->V->Mm->RE}{K:Kc}(h:tf X n t)(hg:sq X n' f g)(hK:KS X n' K)(hn:n'≤n):tf X n (gn t f (rE (yy (g K)))):=cO.set f h λm hm=>JK hg hK (bb hn hm)
theorem FF(h:kz X)(n:Nat):KS X n (kJ gQ n):=KS.table (λn f=>kz.at h f rfl n) n
theorem Dv(h:kz X):KS X 4 K0:=FF h 4
theorem an1(h:kz X):tf X 4 T1:=m7 (h.n 4) (h.at 32 rfl 4) (Dv h) (bT _)
theorem ks1(h:kz X):KS X 12 K1:=KS.over (Dv h) (an1 h) 8
theorem tf.up{n n':Nat}{t:Tr (Kc->V->Mm->RE)}(h:tf X n t)(hn:n≤n'):tf X n' t:=cO.imp (λY Y k m hm=>k m (bb hn hm)) h
theorem ks2(h:kz X):KS X 16 K2:=KS.over (ks1 h) (m7 ((an1 h).up (by decide)) (h.at 39 rfl 12) (ks1 h) (bT _)) 4
theorem ksP(h:kz X):KS X 24 KP:=FF h 24
theorem aaA(h:kz X):KS X 26 Z5:=KS.over (ksP h) (m7 (m7 (h.n 24) (h.at 91 rfl 24) (ksP h) (bT _)) (h.at 95 rfl 24) (ksP h) (bT _)) 2
theorem ksX(h:kz X):KS X 8 KX:=KS.over (Dv h) (m7 (h.n 4) (h.at 24 rfl 4) (Dv h) (bT _)) 4
end
section
variable{X:Cx}{acV:V}{a:Int}{G:Prop}{g:V->Mm->RE}{mm:Nat->Int}{bs:V}{c:Nat}
theorem LH{φ:Nat->OV}(hk:∀k w,φ k=.ok w->G->fD g (.cons (.lst acV) (.cons (.rV a (.ofNat k)) .nil)) w):∀l w,atS φ l=.ok w->atP acV a G l->fD g l w:=λl w e p=>lW nO e λx r hl e=>abP nO e λm hx e=>lW nO e λy z hr e=>abR nO e λb k hy e=>vn nO e λhz e=>by
 subst hl hx hr hy hz
 induction k with
 |negSucc k=>exact absurd e nO
 |ofNat k=>
  refine c_ p λI5 i7 hG=>?_;subst I5;subst i7;exact hk _ _ e hG
theorem LI{k:Nat}{v w:V}(e:(bif a9 k 8 then OV.ok v else OV.no)=.ok w):k<8/\v=w:=by
 refine cBool (a9 k 8) (λhb=>?_) (λhb=>?_)
 ·replace e:=hb▸e;exact absurd e nO
 ·replace e:=hb▸e;refine DS e ?_;exact⟨eB hb,rfl⟩
theorem anD(h:kz X):tf X 4 (TD (mem mm) (ab c) (GE mm c bs) bs (eE mm c) lr):=by
 unfold TD;refine cO.set 2 (cO.set 7 (cO.set 1 (cO.set 0 (h.n 4) λm hm=>kT λl w e p=>(jh 4 (aq f0) K0 hm (h.at 0 rfl 4) (Dv h) (LH (λk w hk hG=>hG.1 k w hk) l w e p))) λm hm=>kT λl w e p=>(jh 4 (aq f1) K0 hm (h.at 1 rfl 4) (Dv h) (LH (λk w hk hG=>?_) l w e p))) λm hm=>kT λl w e p=>(jh 4 (aq f7) K0 hm (h.at 7 rfl 4) (Dv h) (LH (λk w hk hG=>?_) l w e p))) λm hm=>kT λl w e p=>(jh 4 (aq f2) K0 hm (h.at 2 rfl 4) (Dv h) ?_)
 ·refine aD (LI hk) λh8 mf=>?_;subst mf;exact hG.2.1 k h8
 ·refine aD (LI hk) λh8 kh=>?_;subst kh;exact hG.2.2 k h8
 ·refine lW nO e λx r hl e=>Ka nO e λb hx e=>vn nO e λhr e=>?_;subst hl hx hr;exact DS e C'
theorem anE(h:kz X):tf X 4 (TE (hE c) (ab c)):=by
 unfold TE;refine cO.set 69 (cO.set 68 (cO.set 67 (cO.set 66 (h.n 4) λm hm=>kT λl w e p=>(jh 4 (aq f66) K0 hm (h.at 66 rfl 4) (Dv h) ?_)) λm hm=>kT λl w e p=>(jh 4 (aq f67) K0 hm (h.at 67 rfl 4) (Dv h) ?_)) λm hm=>kT λl w e p=>(jh 4 (aq f68) K0 hm (h.at 68 rfl 4) (Dv h) ?_)) λm hm=>kT λl w e p=>(jh 4 (aq f69) K0 hm (h.at 69 rfl 4) (Dv h) ?_)
 ·refine lW nO e λx r hl e=>Ka nO e λb hx e=>vn nO e λhr e=>?_;subst hl hx hr;exact DS e (Gz p.1 p.2)
 ·refine lW nO e λx r hl e=>Ka nO e λb hx e=>vn nO e λhr e=>?_;subst hl hx hr;exact DS e (Kj p.1 p.2)
 ·refine lW nO e λx r hl e=>Ka nO e λb hx e=>vn nO e λhr e=>?_;subst hl hx hr;exact DS e (C9 p.1 p.2)
 ·refine lW nO e λx r hl e=>Ka nO e λb hx e=>lW nO e λy z hr e=>vn nO e λhz e=>?_;subst hl hx hr hz
  rcases ZO y with⟨w,rfl⟩|h
  ·obtain⟨rfl,p⟩:=p;exact DS e (Kk p.1 p.2)
  ·have p:V.qU False _ y:=p;rw[h] at p;exact p.elim
theorem acD(h:kz X){m:Nat}(hm:12≤m):sq X m 23 (gm R23):=NJ λl w ⟨mm,a,bs,r⟩=>(jh 12 (aq f23) _ hm (h.at 23 rfl 12) (KS.over (Dv h) (anD h) 8) r)
theorem acE(h:kz X){m:Nat}(hm:12≤m):sq X m 90 (rE V_):=NK λl w ⟨a,r⟩=>(jh 12 (aq f90) _ hm (h.at 90 rfl 12) (KS.over (Dv h) (anE h) 8) r)
theorem ksY(h:kz X):KS X 16 KY:=KS.over ((ksX h).mono (by decide)) (m7 (g:=aq f25) (cO.set 23 (h.n 12) λm hm=>acD h hm) (h.at 25 rfl 8) (ksX h) (by decide)) 4
theorem anS(h:kz X):tf X 26 TS:=by
 unfold TS;refine m7 (g:=aq f56) (cO.set 120 (cO.set 108 (LG (g:=aq zj) (LG (g:=aq f50) (cO.set 90 (LG (g:=aq f96) (m7 (g:=aq V8) (h.n 26) (h.at 40 rfl 16) (ks2 h) (by decide)) (h.at 96 rfl 26) (aaA h) (bT _)) λm hm=>acE h (by lia)) (h.at 50 rfl 24) (ksP h) (by decide)) (h.at 91 rfl 24) (ksP h) (by decide)) λm hm=>Zi (h.at 108 rfl m)) λm hm=>Zi (h.at 120 rfl m)) (h.at 56 rfl 4) (Dv h) (by decide)
theorem ksT(h:kz X):KS X 43 (KT 17):=KS.over (aaA h) (anS h) 17
theorem ksL(h:kz X):KS X 20 KL:=KS.over (ksY h) (m7 (g:=aq Zu) (h.n 16) (h.at 26 rfl 16) (ksY h) (bT _)) 4
theorem ksW(h:kz X)(n:Nat):KS X (43+n) (KW n):=KS.over (ksT h) (m7 (g:=aq UZ) (m7 (g:=aq f27) (m7 (g:=aq Zu) (h.n 43) (h.at 26 rfl 16) (ksY h) (by decide)) (h.at 27 rfl 20) (ksL h) (by decide)) (h.at 126 rfl 43) (ksT h) (bT _)) n
end
section
variable{X:Cx}{n:Nat}{nm:Nm}{x y z:Nat}{G:Gt}{is:List Int}{A:aM}{N:List ag}{s:aj}{us:List aa}
noncomputable def cQh(F:∀st,{c:CS // Ss X n nm st c})(x y z:Nat):Nat->∀l,{c:CS // Sq X n nm l c}
 |0,l=>⟨O7 x y z (cQ F l).1,aas (cQ F l).2⟩
 |_+1,[] =>⟨fm,I8⟩
 |k+1,s::r=>⟨bI (F s).1 (cQh F x y z k r).1,Ew (F s).2 (cQh F x y z k r).2⟩
noncomputable def cBh(ok:mO X)(g:k9 X G)(i8:(X.base.get? sysModules).isSome=true)(x y z k:Nat)(l:List PySem.Stmt):{c:CS // Sq X n nm l c}:=cQh (cS ok g (cE ok g i8 30) 30) x y z k l
end
set_option tactic.hygienic true
section
open MH.Internal
noncomputable section
variable{w:aY}{base:ay}
theorem acF(P:cg):StrKeys (dE P es2):=λe he=>by
 obtain⟨p,_,rfl⟩:=dC.mp (nv.mpr he);exact⟨_,_,rfl⟩
theorem ns2(hK:(KF w.params).In base):base.Ns cStatics (nsFind (dE w.params es2)):=⟨_,_,_,hK _ _ (Zq w.params),rfl,acF w.params,λY=>rfl⟩
theorem G'(hK:(KF w.params).In base):mO (CX w base):=⟨⟨_,ns2 hK,by kernel_rfl⟩,⟨_,ns2 hK,by kernel_rfl⟩,hK⟩
theorem aaB(P:cg):((KF P).lookup sysModules).isSome=true:=by kernel_rfl
theorem i8(hK:(KF w.params).In base):((CX w base).base.get? sysModules).isSome=true:=(uu.mp (aaB w.params)).elim λo ho=>uu.mpr ⟨o,hK _ _ ho⟩
theorem fo(hK:(KF w.params).In base)(f:Nat):Uk (CX w base) f (fScope (zA f)).names ((fArgs (zA f)).args.map (·.arg)) (fBody (zA f)):=Zo (X:=CX w base) hK (fnB f) (c9.mp (JQ w.params) _ (CY f))
noncomputable def fC(X:Cx)(ok:mO X)(g:k9 X GT)(hs:(X.base.get? sysModules).isSome=true)(n f:Nat):Kc->V->Mm->RE:=aq ⟨((fArgs (zA f)).args.map (·.arg)).map idOf,(cB (n:=n) (nm:=(fScope (zA f)).names) ok g hs (fBody (zA f))).1⟩
noncomputable def trM{H:Type}(F:Nat->H):Tr H->(Nat->Nat)->Tr H
 |.nil,_=>.nil
 |.node _ l r,φ=>.node (F (φ 0)) (trM F l λm=>φ (2 * m+1)) (trM F r λm=>φ (2 * m+2))
theorem Ph{H:Type}{F:Nat->H}{P:Nat->H->Prop}(h:∀i,P i (F i))(t:Tr H)(φ:Nat->Nat):cO P (trM F t φ) φ:=by
 induction t generalizing φ with
 |nil=>trivial
 |node v l r il ir=>exact⟨h _,il _,ir _⟩
theorem cO.out{H:Type}{P:Nat->Nat->H->Prop}{t:Tr H}{φ:Nat->Nat}(h:∀n,cO (P n) t φ):cO (λi a=>∀n,P n i a) t φ:=by
 induction t generalizing φ with
 |nil=>trivial
 |node v l r il ir=>exact⟨λn=>(h n).1,il λn=>(h n).2.1,ir λn=>(h n).2.2⟩
theorem VG(X:Cx)(ok:mO X)(g:k9 X GT)(hs:(X.base.get? sysModules).isSome=true)(n:Nat):trM (fC X ok g hs n) gQ (λn=>n)=gQ:=by kernel_rfl
theorem VH(X:Cx)(ok:mO X)(g:k9 X GT)(hs:(X.base.get? sysModules).isSome=true)(n:Nat):(⟨((fArgs (zA 131)).args.map (·.arg)).map idOf,(cBh (n:=n) (nm:=(fScope (zA 131)).names) ok g hs aB fU fT 5 (fBody (zA 131))).1⟩:Fn)=⟨[jf],Pd⟩:=by kernel_rfl
theorem Pj(hK:(KF w.params).In base):cO (λi g=>∀n,sq (CX w base) n i g) gQ (λn=>n):=cO.out λn=>VG (CX w base) (G' hK) (NM hK) (i8 hK) n▸Ph (λf=>Jq (G' hK) (fo hK f) (cB (G' hK) (NM hK) (i8 hK) _).2) gQ λn=>n
theorem fsL(hK:(KF w.params).In base)(n:Nat):sq (CX w base) n 131 (aq ⟨[jf],Pd⟩):=VH (CX w base) (G' hK) (NM hK) (i8 hK) n▸Jq (G' hK) (fo hK 131) (cBh (G' hK) (NM hK) (i8 hK) _ _ _ 5 _).2
end
end
set_option tactic.hygienic false
theorem ints_of:∀{xs:List WData},uQ [] xs .int=true->∃is:List Int,xs=is.map WData.int:=by
 intro xs
 induction xs with
 |nil=>intro _;exact⟨[],rfl⟩
 |cons d xs ih=>
  intro h;refine aD (dK.mp (show(WShape.has [] d .int&&uQ [] xs .int)=true from h)) λh1 h2=>?_;refine bc (ih h2) λis mf=>?_;subst mf
  cases d with
  |int i=>exact⟨i::is,rfl⟩
  |_=>exact nomatch h1
theorem Pk{args:List WData}(h:uR [] args [.list .int] =true):∃is:List Int,args=[.list (is.map .int)] :=by
 induction args using bE with
 |nil=>exact nomatch h
 |cons d args=>
  refine aD (dK.mp (show(WShape.has [] d (.list .int)&&uR [] args [])=true from h)) λh1 h2=>?_
  induction args with
  |cons _ _=>exact nomatch h2
  |nil=>
   cases d with
   |list xs=>
    have h3:(uQ [] xs .int||false)=true:=h1;rw[nH] at h3;refine bc (ints_of h3) λis i5=>?_;subst i5;exact⟨is,rfl⟩
   |_=>exact nomatch h1
theorem Pm{is:List Int}{k:Nat}(h:WTm.holds [] (.and (.not (.lt (.lit (.int k)) (.len (.arg 0)))) (.lit (.bool true))) {args:=[.list (is.map .int)] }=true):is.length≤k:=by
 have h:(match (match some (WData.bool (!decide ((k:Int)< ((is.map WData.int).length:Int)))) with
  |some (.bool false)=>some (.bool false)
  |some (.bool true)=>some (.bool true)
  |_=>none) with|some (WData.bool true)=>true|_=>false)=true:=h
 refine cBool (decide ((k:Int)< ((is.map WData.int).length:Int))) (λe=>?_) (λe=>?_);rotate_left
 ·rw[e] at h;exact nomatch h
 ·have:=of_decide_eq_false e;rw[bx] at this;omega
theorem Pp{X:Cx}{h:ay}{P:cg}:∀{is:List Int}{vs:List aa},WellAll P h vs (is.map .int)->VL X h [] [] (aU (is.map V.sym)) vs:=by
 intro is
 induction is with
 |nil=>intro vs w;cases w;rfl
 |cons i is ih=>intro vs w;cases w with|cons a b=>cases a;exact dy _ _ rfl ⟨_,rfl⟩ (ih b)
theorem Pq{X:Cx}{h:ay}{P:cg}{is:List Int}{us:List aa}(w:WellAll P h us [.list (is.map .int)]):VL X h [] [] (.cons (.lst (aU (is.map V.sym))) .nil) us:=by
 cases w with
 |cons a b=>
  cases b
  cases a with
  |list e q=>exact dy _ [] rfl (mH _ _ rfl fw ⟨_,e,rfl,_,rfl⟩ (Pp q)) rfl
section
variable{X:Cx}{is:List Int}{A:aM}{s:aj}{us:List aa}
theorem LJ(h:kz X)(acG:∀n,sq X n 131 (aq ⟨[jf],Pd⟩))(hl:is.length≤5000)(rq:Rq 46 A)(hb:X.base=s.heap)(vl:VL X s.heap [] [] (.cons (.lst (aU (is.map V.sym))) .nil) us):
  codeAny (model X.prog X.w) A (.call (.ref (X.nk 131)) ⟨us,[]⟩) (λr s'=>r=.ok (.ret (.bool true))/\Gw [] s [] s') s:=by
 refine eQ λkk=>?_;refine bc (Pg (n:=0) (is:=is) hl) λbK r=>?_;refine a6 ((ae.call (K:=KW 2) (ns:=[jf]) (l:=.cons (.lst (aU (is.map V.sym))) .nil) rfl r).z) λhs ob po e=>?_;refine kk ?_;have rd:R0 X [] [] [] s.heap:=⟨λb o e=>hb▸e,rfl,jw,λa m=>(nomatch m),λa m=>(nomatch m),λa m=>(nomatch m)⟩;exact yx (acG 45) (ksW h 2) e po rq rd (N':=[]) (λa m=>m) vl λu s' aK g Y q=>⟨by exact ah (show u=.bool true from q) rfl,⟨g.keep,λb m=>(nomatch m),λi p e=>(nomatch e),g.gens,g.os⟩⟩
end
set_option tactic.hygienic true
section
open MH.Internal
theorem ka(P:cg):KA=(KF P).map (·.1):=by kernel_rfl
theorem l11(w:aY)(os:b_):KA.map (AZ w os).heap.get?=(KF w.params).map λp=>some p.2:=by kernel_rfl
theorem aaC:LeftO P0 QV LO (λY=>true) (λs=>KA.map s.heap.get?) (λw=>(KF w.params).map λp=>some p.2) 12492:=
 LeftO.of_pieces Wl Wm aaS (by decide+kernel) λw=>funext λos=>iF (l1 w os) (iF (iF (l2 w os) (iF (l3 w os) (iF (l4 w os) (iF (l5 w os) (iF (l6 w os) (iF (l7 w os) (iF (l8 w os) (iF (l9 w os) (l10 w os))))))))) (l11 w os))
noncomputable def acH:Stmt->Pos|.FunctionDef _ _ _ _ _ _ _ _ _ p=>p|_=>⟨0,0,0,0⟩
noncomputable def DL:DefRec:=⟨"law",fArgs (st 137),fBody (st 137),fScope (st 137),acH (st 137)⟩
theorem aaD(P:cg):((KF P).lookup mainGlobals).bind (λo=>match o.data with|.dict es _=>nsFind es "law"|_=>none)=some (.ref (nk 131)):=by kernel_rfl
theorem VI{w:aY}{h:ay}{mg:Str->Option aa}{a:ag}(hK:(KF w.params).In h)(hn:h.Ns mainGlobals mg)(hm:mg "law"=some (.ref a)):a=nk 131:=by
 refine kX hn λo es ep ho hd Y hf=>?_;clear hn;refine aL (Option.bind_eq_some_iff.mp (aaD w.params)) λo' h1 h2=>?_
 have:=hK _ _ h1;replace this:=ho▸this
 cases this
 replace h2:=hd▸h2;have h2:nsFind es "law"=some (.ref (nk 131)):=h2;replace h2:=hm▸((hf "law")▸h2)
 cases h2
 rfl
theorem aaE(args:List WData):LW.row.toRowW.claim.post args (.bool true) args=true:=by kernel_rfl
theorem aaF:WalkO QV LO (λY Y=>True) (λw h=>(KF w.params).In h) LW.row.toRowW DL [] λf vs=>PySem.call f vs:=by
 intro w s₀ aw mg mb G acS a o pm cd doc dV kV ho hd Yx hD hmg hg args vals as OD acR hrd hwl hlo;refine aD (dK.mp (show(uR [] args [.list .int] &&WTm.holds [] (.and (.not (.lt (.lit (.int ((63:Nat):Int))) (.len (.arg 0)))) (.lit (.bool true))) {args:=args})=true from OD)) λh1 h2=>?_;refine bc (Pk h1) λis i5=>?_;subst i5;have hl:=Pm h2;obtain rfl:=VI acS G.T.g hmg;refine n8 (j1 (LJ (X:=CX w aw.heap) (A:=callerA) (Pj acS) (λn=>fsL acS n) (bb hl (by decide)) (by refine⟨rfl,?_,?_⟩<;>decide+kernel) rfl (Pq hwl)) λr s' h=>?_);refine aD h λI6 g=>?_;clear h;subst I6;exact⟨.inl ⟨.bool true,.bool true,[],rfl,λY=>rfl,.bool true,aaE _,λY=>⟨jw,λY m=>nomatch m⟩⟩,.of_keep λb o e=>g.keep b o (λm=>nomatch m) e,g.os,.of_eq (g.gens.trans hg)⟩
theorem law_holds:LW.Holds:=holds_law aaT λs=>holds_open (r:=LW.row) (q:=QV) (loose:=LO) (Xt:=λY=>true) (XP:=λY Y=>True) (YP:=λw h=>(KF w.params).In h) (d:=DL) (kwd:=[]) (N:=12492)
 aaC (λw s e=>Frag.in_of (ka w.params) e) (λw h h' x k=>x.keeps k) (λY Y=>trivial) (λY Y Y Y Y=>trivial) (by kernel_rfl) (by kernel_rfl) (by kernel_rfl) (λY Y=>recFacts_nil rfl) (by kernel_rfl) s (by kernel_rfl) ⟨rfl,rfl,rfl,rfl,rfl,by kernel_rfl⟩
 ⟨[.list []],by kernel_rfl,by kernel_rfl⟩ aaF
end
end Mine.Internal
theorem PySem.Challenge.cw_nz0596_01_holds : PySem.Challenge.rw_nz0596_01.Holds :=
 Mine.Internal.law_holds
