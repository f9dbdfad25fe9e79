import PyProof.Rows.All
import Wide.All
import KE.KNest
import KE.KDictList
import KE.KEqDict
import Wide.FinOn
import Lean
import PySem.Challenge.RW_pp0059_01
open PySem renaming wpAny_bind->R8,wpAny_pure->S5,Shared->S8,wpAny->D8,compareOp->A9,Around->O3,wpAny_holding->O4,sizeLine_eq->O9,World->qQ2,mainGlobals->qQ3,wpAny_newObj_type->qQ4,execs->qQ8,wpAny_call_entry->qQ9,rawInt->qZ2,FuncData->qZ6,cellsFrom->qZ8,wpAny_loadPart_at->qZ9,strKind_is->qW1,codeAny->qW6,compEnvC->qX2,wpAny_callSpecial?_slot->qY0,wpAny_field->qY1,wpAny_typeNameOfWhole_keyiter->qY2,assign->qY4,wpAny_standAt->qY9,allTrue->qJ2,wpAny_setField->qV0,wpAny_call->qV1,getMethod->qV5,wpAny_isSubtype_exc->qV8,wpAny_comprehension_free->qV9,wpAny_typeNameOf_keyiter->qU0,behindInMarks->qU1,valueAt->qU3,spliced->qU4,letOwnedTupleGo->qU5,theTreesLotGoes->qU6,builtinsNs->qL2,Result->qL4,starEach->qL6,codeAny_call_builtin->qL7,Thread->qL9,importedModules->qP0,codeAny_builtin->qP2,setItem->qP4,noteFrame->qP6,keywordEach->qG1,excClassObj->qG3,wpAny_newList->qG7,wpAny_getItem_of->qF1,swapsWith->qF3,OsState->qF9,stored->qH0,standAt->qH2,sysModules->qH3,ExcBaseFacts->qH4,size_of_entries->qH5,wpAny_loadPart'->qH6,fastBuiltinOwn->qM2,wpAny_loadPart->qM4,PyData->qM5,newTuple->qM6,wpAny_of_eq->qM7,firstArgMember->qM8,treeTable->qM9,getAttr->qN0,wpAny_attempt->qN7,backTo->qR1,call_meets->qR2,pyNext->qR4,wpAny_truthy_bool->qS1,bootBuiltins->qS2,backToKw->qS3,compTurn->qS5,wpAny_dictEntries->qS6,inplaceOp->qB2,boolOp->qB3,execs_nil->qB4,pushCells->qB6,checkBuiltinCall->qB7,IsRangeIter->qC0,wpAny_updateSeq->qC5,wpAny_dictEpoch->qC6,holding->qD0,storedH->qD3,wpAny_rule->qE0,binaryOp->qE2,truthy->qE3,assignEach->qE4,wpAny_load->qE5,newFunctionEnv->qE6,evalEach->qE8,attributeBase->qA3,ExceptHandler->qA7,DictEntry->qA9,setFlight->qI0,codeAmong->qI2,markedBehindIn_of_false->qI3,evalPairs->qI4,denote->qO3,wpAny_mkText->qO6,setAttr->qO7,release->qO8,getItem->qO9,Builtin->zQ0,dictSet->zQ1,wpAny_pyIter_rangeiter->zQ2,wpAny_update->zQ3,relabel->zQ4,codeAny_compStart_list->zQ5,codeAny_compStart_dict->zQ6,ownMembersOf->zQ9,wpAny_notOrdered_dict->zZ3,wpAny_isOneOf_keyiter->zZ4,GenState->zH2,wpAny_point->zH4,callWith->zH5,storedH_new->zH6,storedH_old->zH7,readyFrames->zH8,compPost->zM0,numAt->zM1,bindArgs->zM2,evalEachOpt->zM3,storeAll->zM4,any_of_findIdx_some->zS3,wpAny_setItem_pairs->zS4,wpAny_dictSet_pairs->zS5,wpAny_raiseNew_none->zS6,entryOfKey->wY3,typeOf->wY4,pyIter->wY5,cameBackBy->wY6,isInstance->wY7,operate->wY9,entry_list_append->wJ0,newList->wJ1,wpAny_sequenceKey->wJ2,slot_list_setitem->wJ3,slot_dict_setitem->wJ4,BindsTo->wJ5,arm_isTrue_BoolOp->wJ6,wpAny_lookBehind->wH7,pastItsLine_dict->wH8,slot_list_append->wH9,args_list_append->wM0,storeName->wM1,wpAny_isInstance->wM2,codeAny_call_def->wM3,onTheHeap->wM4,pyHashByItsType->wM5,wpAny_specialOf->wM6,eval_Dict_empty->wM7,getAttrByItsOwn->wM8
open List renaming length_map->S6,mem_cons_of_mem->S9,mem_cons_self->T3,mem_filter->T6,mem_map->T8,range->B4,map_cons->B6,mem_singleton->B7,length_range->B9,getElem?_eq_some_iff->C7,map_append->C8,replicate->C9,getElem?_map->D4,all_eq_true->D5,map_congr_left->D6,mem_cons->E3,isEmpty_iff->E6,append_nil->E7,length_append->E8,length_filter_le->E9,mem_append->A4,filter_cons->A6,filterMap_cons->A8,nodup_cons->O5,getElem?_eq_getElem->O8,lookup_cons->qQ1,getD_eq_getElem?_getD->qQ5,filter_eq_self->qQ6,eq_nil_of_length_eq_zero->qQ7,nodup_append->qZ0,mem_map_of_mem->qZ1,length_singleton->qZ3,map_map->qZ7,length_cons->qW2,zip_cons_cons->qW4,getElem_range->qW5,find?_cons->qW7,take_add_one->qW9,mem_range->qX4,nodup_nil->qX5,lookup_eq_none_iff->qX6,filterMap_append->qY3,append_assoc->qY5,mem_of_getElem?->qJ0,getElem?_range->qJ6,map_eq_nil_iff->qJ7,filter_sublist->qJ8,any_cons->qV4,contains_cons->qV6,ne_nil_of_mem->qV7,map->qU7,filterMap_eq_map'->qU8,length_replicate->qK1,mem_append_right->qK2,any_eq_true->qK3,getElem_mem->qK4,not_mem_nil->qK5,mem_reverse->qK6,forIn_cons->qL0,mapM_cons->qL8,size_toArray->qP3,filter_congr->qP5,take_length->qP9,getElem?_set_self->qG4,contains_iff_mem->qF0,lookup->qF6,getElem?_set_ne->qF7,all_cons->qH7,find?_eq_none->qM0,filter_append->qM1,getElem_map->qN3,ext_getElem->qN8,length_set->qR8,of_mem_zip->qR9,getElem?_append_right->qT3,getLast?_eq_getElem?->qB1,exists_mem_of_ne_nil->qB8,filterMap_cons_none->qC2,getElem_cons_zero->qC7,getElem_cons_succ->qC8,any_nil->qD2,map_nil->qD4,filter_eq_nil_iff->qD6,mem_append_left->qA1,length_take_le->qA5,take_succ_cons->qA6,mem_filterMap->qA8,zip_nil_right->qI1,filter_filter->qI5,any_eq_false->qO5,head?_filter->zZ0,getElem?_inj->zZ1,length_nil->zH9
open PySem.Heap renaming get?_push_of_some->S7,get?_push_size->B3,get?_update_self->D7,ExtBut->qW0,size_push->qW3,get?_none_of_le->qW8,get?_update_other->qX8,SameBut->qG0,lt_size->qC9
open Option.some renaming inj->B5,injEq->qK9
open Option renaming map_eq_some_iff->B8,isNone_iff_eq_none->E4,bind_eq_some_iff->A7,map_some->qN5
open Eq renaming symm->C6
open PySem.W renaming look_both->E5,looks_findIn->qY6,boot_heap->qY8,instObj->qK7,findIn->qP1,Looks->qF2,keepIn->qH1,plainGet_of->qM3,tabObj->qR0,through->qS0,hasDictIn->qB0,looks_clsIn->qB9,noTabs->qD9,codeIn->qE7,stepOk->qO4,CodeHd->zQ8,plainGet->zH3,boot_drawn->wY1,namesBound->wY2,boot_toks->wH4,staticsOk->wH5,set_plain->wH6
open PySem.Heap.SameBut renaming update->A5
open Or renaming elim->qQ0
open PyProof.Rows renaming subscriptTail->qZ5,getItem_tuple->qH8,IntsAre->zQ7
open Array renaming length_toList->qX1,getElem?_eq_getElem->qJ3,getElem?_setIfInBounds_ne->qU9,getElem?_eq_some_iff->qS4,size->qA4
open LawfulMonad renaming pure_bind->qX7,bind_assoc->qR3
open PySem.Env renaming kindOf->qX9
open List.cons renaming injEq->qJ1
open ForInStep renaming yield->qJ4
open PySem.SeqAt renaming compareNe_reads->qK0,RcNeAt->qC4,compareEq_reads->qD1
open PySem.PyData renaming depth->qK8,eqv->qL5,canLay0->qG8,depthAll->qN4,keyHash->qR6,canLayAll0->qA2
open PySem.Builtin.Range renaming rangeSize->qL3
open PySem.Builtin.Dict_items renaming ownsTuple->qG2
open PySem.Around renaming under_plainId->qG9,in1->qR7
open PySem.Code renaming quiet_builtin->qH9,compLoop->qC1
open PySem.Builtin.List renaming listTooLong->qN1
open Ne renaming symm->qN6
open PySem.Builtin.Dict renaming showsAll->qR5
open PySem.W.Fast renaming tw11892475500146522536->qS7,tw14364793385576792824->qS8,tw10156331382660048174->qS9,tw6613529449190102663->qT4,tw8920871248978507458->qT5,tw923211914312576958->qT9
open PySem.StrLaws renaming seqIndex_nonneg->qT2
open PySem.EntryCells renaming newEntry->qB5
open PySem.Data.fields renaming inj->qD5
open PySem.DictEntry renaming refKey->qE1
open Prod renaming ext->qA0
open PySem PySem.W PyProof.Rows
set_option Elab.async false
set_option maxRecDepth 100000
set_option linter.all false
namespace Mine
theorem D9{c:Prop}{h:Decidable c}(q:¬c){α:Sort u}{t e:α}:(@ite α c h t e)=e:=_root_.if_neg q
theorem A3{c:Prop}{h:Decidable c}(q:c){α:Sort u}{t e:α}:(@ite α c h t e)=t:=_root_.if_pos q
theorem dct{p:Prop} [Decidable p](h:p):decide p=true:=_root_.decide_eq_true h
theorem dcf{p:Prop} [Decidable p](h:¬p):decide p=false:=_root_.decide_eq_false h
theorem cgA{α:Sort u}{β:Sort v}{a b:α}(f:α->β)(h:a=b):f a=f b:=_root_.congrArg f h
noncomputable abbrev RW:OpenRow:=PySem.Challenge.rw_pp0059_01.row
noncomputable abbrev PR:Program:=PySem.Challenge.pw_pp0059_01
noncomputable def Tf(b:Code->Sem Fin)(p:Program)(w:qQ2)(a c:qL9->Bool)(st:(Code->Sem Fin)->Program->qQ2->SharedT->qL9->Option (SharedT×qL9)):Nat->SharedT->qL9->Option SharedT
 |0,_,_=>none
 |n+1,s,t=>match a t with
  |true=>some s
  |false=>match c t with
   |true=>match st b p w s t with
    |some (d,e)=>Tf b p w a c st n d e
    |none=>none
   |false=>none
theorem zV0:∀{n:Nat}{s s':SharedT}{t:qL9},Tf (qO3 tb) p w qS0 (qO4 n₀ ann) stepT n s t=some s'->topRun tb p w n₀ ann n s.abs t=some s'.abs:=by
 intro n;induction n with
 |zero=>intro s s' t h;cases h
 |succ n d=>
  intro s s' t h;replace h:(match qS0 t with|true=>some s|false=>match qO4 n₀ ann t with|true=>(match stepT (qO3 tb) p w s t with|some (s',t')=>Tf (qO3 tb) p w qS0 (qO4 n₀ ann) stepT n s' t'|none=>none)|false=>none)=some s':=h;unfold topRun;cases b:qS0 t with
  |true=>rw[b] at h;cases h;rfl
  |false=>
   replace h:=b▸h;cases c:qO4 n₀ ann t with
   |false=>rw[c] at h;cases h
   |true=>
    replace h:=c▸h;cases a:stepT (qO3 tb) p w s t with
    |none=>rw[a] at h;cases h
    |some q=>
     obtain⟨e,f⟩:=q;replace h:=a▸h;rw[stepT_spec a];exact d h
noncomputable def wG2:Nat->List Obj->BT->BT
 |_,[],t=>t
 |n,o::r,t=>wG2 (n+1) r (t.ins n o)
noncomputable def vw:Program:=view PR [102]
noncomputable def cH:List Str:=(PR.main.body.take 102).flatMap bindsAtTop
noncomputable def Ek(w:qQ2)(os:qF9):SharedT:=⟨wG2 0 (qY8 w.params).objs.toList BT.nil,(qY8 w.params).objs.size,(qY8 w.params).life,#[],wY1,wH4,os⟩
theorem Th(w:qQ2)(os:qF9):(Ek w os).abs=⟨qY8 w.params,#[],wY1,wH4,os⟩:=by kernel_rfl
noncomputable def XtO(q:Program):S8->Bool:=λs=>xlAt q [] s&&recOk [] s
theorem qD7:opening PR=plainProg PR.main.scope.names:=by kernel_rfl
theorem Fn(s:S8):fenceModules? PR s=some s:=by kernel_rfl
noncomputable def iO(t:BT)(n:Nat):Frag:=(B4 n).filterMap λa=>match t.get a with
 |some o=>(match alive o with
  |some b=>(match qD9 [(a,b)] with
   |false=>none
   |true=>some (a,b))
  |none=>none)
 |none=>none
theorem Xn(h:(a,o)∈iO t n):(absHeap t n life).get? a=some o∧qD9 [(a,o)]=true:=by
 obtain⟨b,c,e⟩:=qA8.mp h;have c:=qX4.mp c;cases d:t.get b with
 |none=>rw[d] at e;cases e
 |some i=>
  replace e:=d▸e;dsimp only at e;cases f:alive i with
  |none=>rw[f] at e;cases e
  |some j=>
   replace e:=f▸e;dsimp only at e;cases g:qD9 [(b,j)] with
   |false=>rw[g] at e;cases e
   |true=>
    rw[g] at e;cases e;exact⟨(abs_get c d).trans f,g⟩
theorem Kh:(iO t n).In (absHeap t n life)∧qD9 (iO t n)=true:=
 ⟨λa o e=>(Xn (mem_of_lookupK e)).1,D5.mpr λp b=>by
  have h:=(Xn (a:=p.1) (o:=p.2) (life:={}) b).2;unfold qD9 at h;rw[qH7,List.all_nil,Bool.and_true] at h;exact h⟩
def Seen(ck:Frag->Bool)(h:Heap):Prop:=∃K:Frag,K.In h∧qD9 K=true∧ck K=true
theorem Ep{p q:Program}{loose:List Str}{Xt:S8->Bool}{ck:Frag->Bool}{as:List Addr}{i:qQ2->List (Option Obj)}{N:Nat}{a:Params->Heap}{c:Array zH2}{f:Drawn}{k₀:Nat}{sT:qQ2->qF9->SharedT}
  (g:∀w:qQ2,(fencedOpening qM9 p w N).map (λs=>(s.heap,s.gens,s.drawn,s.toks))=some (a w.params,c,f,k₀))
  (size:∀w:qQ2,((a w.params).isNs qQ3&&c.size==0)=true) (abs:∀w os,(sT w os).abs=⟨a w.params,c,f,k₀,os⟩)
  (h:∀(w:qQ2)(os:qF9),(Tf (qO3 qM9) p w qS0 (qO4 (a w.params).objs.size ((a w.params).nsMap qQ3 "__annotations__")) stepT N (sT w os) (topStub p)).map
   (λb=>(wH5 (qP0 p.main.body) (a w.params) b.abs.heap&&wY2 p b.abs.heap&&gensDone b.abs&&laidKept (a w.params) b.abs.heap,openSeen q loose (qP0 p.main.body) Xt true b.abs,ck (iO b.tree b.n),as.map b.abs.heap.get?))=some (true,openGood q loose,true,i w)):
  LeftO p q loose Xt (λs=>(Seen ck s.heap,as.map s.heap.get?)) (λw=>(True,i w)) N:=λw=>by
 obtain⟨⟨y,j,d,k,os⟩,e,z⟩:=B8.mp (g w);obtain⟨rfl,rfl,rfl,rfl⟩:y=a w.params∧j=c∧d=f∧k=k₀:=by simpa using z
 obtain⟨b,r,l⟩:=B8.mp (h w os);have m:=zV0 r;rw[abs] at m;have n:=cgA Prod.fst l;have o:=cgA (λx=>x.2.1) l;have u:=cgA (λx=>x.2.2.1) l;have v:=cgA (λx=>x.2.2.2) l;dsimp only at n o u v;unfold openEnds;rw[e];have t:topFrom qM9 p w N ⟨a w.params,j,d,k,os⟩=some b.abs:=by
  unfold topFrom;dsimp only;rw[size w];dsimp only;rw[m];show(match wH5 (qP0 p.main.body) (a w.params) b.abs.heap&&wY2 p b.abs.heap&&gensDone b.abs&&laidKept (a w.params) b.abs.heap with|true=>some b.abs|false=>none)=_;rw[n]
 show(topFrom qM9 p w N _).map _=_;rw[t];have A:Seen ck b.abs.heap=True:=eq_true ⟨iO b.tree b.n,(Kh (life:=b.life)).1,(Kh (life:=b.life)).2,u⟩;show some (openSeen q loose (qP0 p.main.body) Xt true b.abs,Seen ck b.abs.heap,as.map b.abs.heap.get?)=_;rw[A,o,v]
theorem wF4(w:qQ2):((qY8 w.params).isNs qQ3&&(#[]:Array zH2).size==0)=true:=by kernel_rfl
theorem wK3:∀w:qQ2,(fencedOpening qM9 PR w 5000).map (λs=>(s.heap,s.gens,s.drawn,s.toks))=some (qY8 w.params,Array.mk [],wY1,wH4):=boot_open qD7 (by decide) Fn
noncomputable abbrev O7:Program:=PySem.Challenge.rw_pp0059_01.row.toRowW.prog
noncomputable def dcN(f n:Nat):List Nat:=@Nat.rec (λ_=>Nat->List Nat) (λ_=>[]) (λ_ a n=>cond (Nat.beq n 0) [] (Nat.mod n 128::a (Nat.div n 128))) f n
noncomputable def dcS(n:Nat):Str:=⟨⟨dcN 64 n⟩⟩
noncomputable def Fu(w f n:Nat)(tl:List Str):List Str:=@Nat.rec (λ_=>Nat->List Str) (λ_=>tl) (λ_ a n=>dcS (Nat.mod n (Nat.pow 128 w))::a (Nat.div n (Nat.pow 128 w))) f n
noncomputable def names:List Str:=Fu 1 6 4014661480671 (Fu 4 28 89634914360983542984339980140350745402530622154404535110343501586447964580144890798409776738844193888663839503781320864690422489455607656943949359541407222264312241038018821345323716413450086125466208408900659590756126271848757348331873 (Fu 5 40 22676641130997090028478217148237445353198580472918292320015542337282481740914600996910285406306813233702216510007336160587311563203673941153576822778246791350468495468520631867724767624008597677532764976650618498134429183129481724184695004775682642009007101293470530514545800275357288732322522588619771284512358568729349296997093782362491383433364800478747425090158743438641158925480541538841478643592755767825261003519211 (Fu 6 40 48206553479799871181175320145978748952839921689999813679374027382258621997636724455685490354934721562098825287640040894224137179020569729156862952029118641464010381086309994681852611648923434512014882730634814593415099931268274383809793241660128661401538764871967846301534882284836710190738764052513677750784447944192759654847455148490773515276829401128744879726526942827011892458376290493682188800245429991944610354483714363464156346236900820279690369745658568033709540062087826486691162414564621879424873 (Fu 7 40 92119601967408069203277800641453256758147215082388524743787485309619873002759803345715346550617347540675505128386117776616365965794878092563517778558400050422758317116972816363434992333738106034004418236362654413636886096744714104323217646551997958315939843264137148838683075390247262456438198307457126662252081756237447165420496110753664445562298907078771180338694874342114912930437733239139090750733213208999070585012203948261569703661373921709372931249489088516669619774071107682085700051680626019736908324240749298324462617326248877678620489001585336183879906501314912340350380170377969 (Fu 9 40 356989614048107821482615923583734376044863975819390763468911762438651192536108833341326958891812801143239162427406966599153464607265526810787929869789516709574258359298692842570013270573185502913588394391741968462592903060728068931533132770064253436902878928312885195559579135153210284441872007510073053987447429550731626583564676367374302199597551521453020313329466645645998586431160476364154792100917212001645098321512800581417567692945003905024684546234113086108620443236691072684421462885340165456821405000811617999678034129048917682074421076896455602786094883125904144847073098681895869525548573255006871527657512272410730297279085465012028961759500666083016701769616409055695330857432911550674872271677791779076463139925432976694603490988954223560389185 (Fu 11 28 9486899083102692540287261677825829543163211641337900626766977980763515493855182404979137777659146038654424234853069495872412497237114661480363065980335545908078211992940769030839907999608582056241193291077276014549350636408897709588440937463207508736761901967317572091096260909689352378980539086816778284952589119305803711507729739593293697792424528644603186487556791210532843908409544433359055991201976891432988348407223860499134207353336355775571062616561521944076662259353630110055192202430975263577849496636985068172428951660161136907557733233016674991798507589905851796476560582587599862310717882861801198390808324685015188455559472340714987969 (Fu 13 20 67803474125050489035554913057307952535030983861654016861999639598590750746365348321177221417002439089417303454177841255859541399474638507293804069859418210840832423871001574937425530577539154890920910509828848588881836385946858910499709555752327356657937691776530002704046057607364817856990452791716381370177193322399927553865331830711429620193886302236414623788794820814246082242533581783898575702958471535234875210076931211857345420068234341449065860214787007532650854218812582573196846916709369000925418686987271923864084853030572719728450106975 (Fu 15 13 754151302017222712972041067512664266287782354110048606116851782794020459448678036166070384851235317040655313649439312702288860323184120965275285854945688999017234181580897966884911149451199608555259286682512239891997675228380509686285964360249693262514418773999843191765249432916190307092986071250657132481585907531258884352203553111344524203819915526358830797528010301877258188074732778508698264807072065124688 (Fu 17 4 176507122024010348530807042845328339654702574859181583881774537482504128982912303888426213823693820998252771375732947882441278076884665297844206 (Fu 19 2 107266319756764684123535948608495741593132309992957853866676805026079989913121377 (Fu 29 1 10123326953794639662731208896722704089278881374170373708124257 (Fu 33 2 9377519139883691757890893309066440996149301500492597977805148228666939994733180600426491141191318173611329179325205473347053767839527221230 (Fu 35 1 44522866358909034785393766849483427932395520806250652842912975520360133748 (Fu 40 1 1682028229191457803246858634441713049994447094439369849360923170603980240952441442401 (Fu 43 1 3208210372321097024266603460228549974708924483156871206869714636133943375748246904923321460 [])))))))))))))))
noncomputable def nm(k:Nat):Str:=names.getD k Str.empty
noncomputable abbrev NN:Nat:=267
noncomputable def code(x:Str):Nat:=x.cps.toList.foldl (λn c=>n*2097152+c+1) 0
noncomputable def Tm:Nat->List Nat->Bool
 |_,[]=>true
 |a,b::r=>Nat.blt a b&&Tm b r
theorem Eg{a b:Nat}{r:List Nat}:Tm a (b::r)=(Nat.blt a b&&Tm b r):=rfl
theorem Jy:∀{l:List Nat}{a:Nat},Tm a l=true->∀i,(h:i<l.length)->a<l[i]
 |[],_,_,_,h=>absurd h (Nat.not_lt_zero _)
 |b::r,a,e,i,h=>by
  rw[Eg,Bool.and_eq_true] at e;have c:=Nat.le_of_ble_eq_true e.1;cases i with
  |zero=>exact c
  |succ i=>exact Nat.lt_trans c (Jy e.2 i (Nat.lt_of_succ_lt_succ h))
theorem Ef:∀{l:List Nat}{a:Nat},Tm a l=true->∀i j,(hi:i<l.length)->(hj:j<l.length)->l[i]=l[j]->i=j:=by
 intro l;induction l with
 |nil=>
  intro a e i j h;exact absurd h (Nat.not_lt_zero _)
 |cons b r c=>
  intro a e i j hi hj q;rw[Eg,Bool.and_eq_true] at e;cases i with
  |zero=>cases j with
   |zero=>rfl
   |succ j=>
    have:=Jy e.2 j (Nat.lt_of_succ_lt_succ hj);simp only[qC7,qC8] at q;exact False.elim (Nat.ne_of_lt this q)
  |succ i=>cases j with
   |zero=>
    have:=Jy e.2 i (Nat.lt_of_succ_lt_succ hi);simp only[qC7,qC8] at q;exact False.elim (Nat.ne_of_lt this (id (C6 q)))
   |succ j=>
    have:=c e.2 i j (Nat.lt_of_succ_lt_succ hi) (Nat.lt_of_succ_lt_succ hj) (by simpa using q);lia
theorem Fr:Tm 0 (names.map code)=true:=by kernel_rfl
theorem pR:names.length=NN:=by kernel_rfl
theorem yI{i j:Nat}(hi:i<NN)(c:j<NN)(e:nm i=nm j):i=j:=by
 have a:i<(names.map code).length:=by rw[S6,pR];exact hi
 have b:j<(names.map code).length:=by rw[S6,pR];exact c
 refine Ef Fr i j a b ?_;rw[S6] at a b;simp only[qN3];have d:nm i=names[i]:=by unfold nm;rw[qQ5,O8 a];rfl
 have f:nm j=names[j]:=by unfold nm;rw[qQ5,O8 b];rfl
 rw[<-d,<-f,e]
set_option genSizeOf false in
inductive AV where
 |none
 |bool (b:Bool)
 |int (i:Int)
 |str (k:Nat)
 |ref (a:Addr)
 deriving DecidableEq
theorem sj{α:Type}{o:Option α}{a b:α}(h:o=some a)(h':o=some b):a=b:=B5 (h.symm.trans h')
@[elab_as_elim] theorem qX{α:Sort u}{a b:α}{P:α->Prop}(h:a=b)(k:P b):P a:=h▸k
theorem uZ{α:Type}{a:α}{P:Prop}(h:none=some a):P:=nomatch h
theorem srj{o:Option AV}{a b:Addr}(h:o=some (.ref a))(h':o=some (.ref b)):a=b:=AV.ref.inj (sj h h')
theorem wZ3{α:Type}{p:Prop} [Decidable p]{a b c:α}:(if p then a else if p then b else c)=if p then a else c:=by split<;>rfl
theorem ar1:∀n:Nat,(-1+(n:Int)).toNat=n-1
 |0=>rfl
 |n+1=>by rw[show(-1+((n+1:Nat):Int))=(n:Int) from by rw[Int.natCast_succ,Int.add_comm,Int.add_neg_cancel_right]];rfl
theorem ar2{n:Nat}(h:0<n):-(n:Int)≤-1:=Int.neg_le_neg (Int.ofNat_le.mpr h)
theorem U9{m:Nat->Option AV}{j k:Nat}{v:AV}{x:Option AV}(h:Nat.beq k j=false)(e:m k=x):(if k=j then some v else m k)=x:=(D9 (Nat.ne_of_beq_eq_false h)).trans e
theorem pS{A B:Prop}(b:A)(a:B):A∧B:=⟨b,a⟩
theorem oQ{A B C:Prop}(a:A)(b:B)(c:C):A∧B∧C:=⟨a,b,c⟩
theorem wK2{A B C D:Prop}(a:A)(b:B)(d:C)(c:D):A∧B∧C∧D:=⟨a,b,d,c⟩
theorem wN7{A B C D I:Prop}(a:A)(c:B)(e:C)(d:D)(b:I):A∧B∧C∧D∧I:=⟨a,c,e,d,b⟩
theorem yU{α:Sort _}{A:α->Prop}(a:α)(b:A a):∃a,A a:=⟨a,b⟩
theorem qZ{α:Sort _}{A B:α->Prop}(a:α)(b:A a)(c:B a):∃a,A a∧B a:=⟨a,b,c⟩
theorem zU{α:Sort _}{A B C:α->Prop}(a:α)(b:A a)(c:B a)(d:C a):∃a,A a∧B a∧C a:=⟨a,b,c,d⟩
theorem rE{α:Sort _}{A B C D:α->Prop}(a:α)(b:A a)(c:B a)(e:C a)(d:D a):∃a,A a∧B a∧C a∧D a:=⟨a,b,c,e,d⟩
theorem Eh{α:Sort _}{A B C D I:α->Prop}(a:α)(b:A a)(d:B a)(f:C a)(e:D a)(c:I a):∃a,A a∧B a∧C a∧D a∧I a:=⟨a,b,d,f,e,c⟩
theorem Jj{α:Sort _}{β:Sort _}{A:α->β->Prop}(a:α)(b:β)(c:A a b):∃a b,A a b:=⟨a,b,c⟩
theorem nS{α:Sort _}{β:Sort _}{A B:α->β->Prop}(a:α)(b:β)(c:A a b)(d:B a b):∃a b,A a b∧B a b:=⟨a,b,c,d⟩
theorem xO{α:Sort _}{β:Sort _}{A B C:α->β->Prop}(a:α)(b:β)(c:A a b)(d:B a b)(e:C a b):∃a b,A a b∧B a b∧C a b:=⟨a,b,c,d,e⟩
theorem Em{α:Sort _}{β:Sort _}{A B C D:α->β->Prop}(a:α)(b:β)(c:A a b)(d:B a b)(f:C a b)(e:D a b):∃a b,A a b∧B a b∧C a b∧D a b:=⟨a,b,c,d,f,e⟩
theorem Tn{α:Sort _}{β:Sort _}{A B C D I:α->β->Prop}(a:α)(b:β)(c:A a b)(e:B a b)(g:C a b)(f:D a b)(d:I a b):∃a b,A a b∧B a b∧C a b∧D a b∧I a b:=⟨a,b,c,e,g,f,d⟩
theorem wV5{α:Sort _}{β:Sort _}{A B C D I J:α->β->Prop}(a:α)(b:β)(c:A a b)(f:B a b)(h:C a b)(g:D a b)(e:I a b)(d:J a b):∃a b,A a b∧B a b∧C a b∧D a b∧I a b∧J a b:=⟨a,b,c,f,h,g,e,d⟩
theorem K5{α:Sort _}{β:Sort _}{A B C D I J K:α->β->Prop}(a:α)(b:β)(c:A a b)(f:B a b)(i:C a b)(g:D a b)(e:I a b)(d:J a b)(h:K a b):∃a b,A a b∧B a b∧C a b∧D a b∧I a b∧J a b∧K a b:=⟨a,b,c,f,i,g,e,d,h⟩
theorem wN5{α:Sort _}{β:Sort _}{A B C D I J K L:α->β->Prop}(a:α)(b:β)(c:A a b)(i:B a b)(f:C a b)(e:D a b)(h:I a b)(d:J a b)(j:K a b)(g:L a b):∃a b,A a b∧B a b∧C a b∧D a b∧I a b∧J a b∧K a b∧L a b:=⟨a,b,c,i,f,e,h,d,j,g⟩
theorem wN8{α:Sort _}{β:Sort _}{γ:Sort _}{A:α->β->γ->Prop}(a:α)(b:β)(c:γ)(d:A a b c):∃a b c,A a b c:=⟨a,b,c,d⟩
theorem jN{α:Sort _}{β:Sort _}{γ:Sort _}{A B:α->β->γ->Prop}(a:α)(b:β)(c:γ)(d:A a b c)(e:B a b c):∃a b c,A a b c∧B a b c:=⟨a,b,c,d,e⟩
theorem zE4{α:Sort _}{β:Sort _}{γ:Sort _}{A B C:α->β->γ->Prop}(a:α)(b:β)(c:γ)(d:A a b c)(e:B a b c)(f:C a b c):∃a b c,A a b c∧B a b c∧C a b c:=⟨a,b,c,d,e,f⟩
theorem Km{α:Sort _}{β:Sort _}{γ:Sort _}{A B C D:α->β->γ->Prop}(a:α)(b:β)(c:γ)(d:A a b c)(e:B a b c)(g:C a b c)(f:D a b c):∃a b c,A a b c∧B a b c∧C a b c∧D a b c:=⟨a,b,c,d,e,g,f⟩
theorem wF8{α:Sort _}{β:Sort _}{γ:Sort _}{A B C D I:α->β->γ->Prop}(a:α)(b:β)(c:γ)(d:A a b c)(f:B a b c)(h:C a b c)(g:D a b c)(e:I a b c):∃a b c,A a b c∧B a b c∧C a b c∧D a b c∧I a b c:=⟨a,b,c,d,f,h,g,e⟩
theorem cM{α:Sort _}{β:Sort _}{γ:Sort _}{A B C D I J:α->β->γ->Prop}(a:α)(b:β)(c:γ)(d:A a b c)(g:B a b c)(i:C a b c)(h:D a b c)(f:I a b c)(e:J a b c):∃a b c,A a b c∧B a b c∧C a b c∧D a b c∧I a b c∧J a b c:=⟨a,b,c,d,g,i,h,f,e⟩
theorem qK{A B:Prop}{G:Prop}(h:A∧B)(k:A->B->G):G:=k h.1 h.2
theorem zH{α:Sort _}{A:α->Prop}{G:Prop}(h:∃a,A a)(k:∀a,A a->G):G:=h.elim k
theorem wH{A B C:Prop}{G:Prop}(h:A∧B∧C)(k:A->B->C->G):G:=by obtain⟨a,b,c⟩:=h;exact k a b c
theorem jL{A B C D:Prop}{G:Prop}(h:A∧B∧C∧D)(k:A->B->C->D->G):G:=by obtain⟨a,b,c,d⟩:=h;exact k a b c d
theorem En{A B C D I:Prop}{G:Prop}(h:A∧B∧C∧D∧I)(k:A->B->C->D->I->G):G:=by obtain⟨a,b,c,d,e⟩:=h;exact k a b c d e
theorem wN2{A B C D I J K:Prop}{G:Prop}(h:A∧B∧C∧D∧I∧J∧K)(k:A->B->C->D->I->J->K->G):G:=by obtain⟨a,b,c,d,e,f,g⟩:=h;exact k a b c d e f g
theorem qY{α:Sort _}{A B:α->Prop}{G:Prop}(h:∃a,A a∧B a)(k:∀a,A a->B a->G):G:=by obtain⟨a,b,c⟩:=h;exact k a b c
theorem zX{α:Sort _}{A B C:α->Prop}{G:Prop}(h:∃a,A a∧B a∧C a)(k:∀a,A a->B a->C a->G):G:=by obtain⟨a,b,c,d⟩:=h;exact k a b c d
theorem cN{α:Sort _}{A B C D:α->Prop}{G:Prop}(h:∃a,A a∧B a∧C a∧D a)(k:∀a,A a->B a->C a->D a->G):G:=by obtain⟨a,b,c,d,e⟩:=h;exact k a b c d e
theorem K8{α:Sort _}{A B C D I:α->Prop}{G:Prop}(h:∃a,A a∧B a∧C a∧D a∧I a)(k:∀a,A a->B a->C a->D a->I a->G):G:=by obtain⟨a,b,c,d,e,f⟩:=h;exact k a b c d e f
theorem wN0{α:Sort _}{A B C D I J K L M:α->Prop}{G:Prop}(h:∃a,A a∧B a∧C a∧D a∧I a∧J a∧K a∧L a∧M a)(k:∀a,A a->B a->C a->D a->I a->J a->K a->L a->M a->G):G:=by obtain⟨a,b,c,d,e,f,g,i,j,l⟩:=h;exact k a b c d e f g i j l
theorem Wr{α:Sort _}{β:Sort _}{A:α->β->Prop}{G:Prop}(h:∃a b,A a b)(k:∀a b,A a b->G):G:=by obtain⟨a,b,c⟩:=h;exact k a b c
theorem yX{α:Sort _}{β:Sort _}{A B:α->β->Prop}{G:Prop}(h:∃a b,A a b∧B a b)(k:∀a b,A a b->B a b->G):G:=by obtain⟨a,b,c,d⟩:=h;exact k a b c d
theorem wV{α:Sort _}{β:Sort _}{A B C:α->β->Prop}{G:Prop}(h:∃a b,A a b∧B a b∧C a b)(k:∀a b,A a b->B a b->C a b->G):G:=by obtain⟨a,b,c,d,e⟩:=h;exact k a b c d e
theorem Jv{α:Sort _}{β:Sort _}{A B C D:α->β->Prop}{G:Prop}(h:∃a b,A a b∧B a b∧C a b∧D a b)(k:∀a b,A a b->B a b->C a b->D a b->G):G:=by obtain⟨a,b,c,d,e,f⟩:=h;exact k a b c d e f
theorem Fs{α:Sort _}{β:Sort _}{A B C D I:α->β->Prop}{G:Prop}(h:∃a b,A a b∧B a b∧C a b∧D a b∧I a b)(k:∀a b,A a b->B a b->C a b->D a b->I a b->G):G:=by obtain⟨a,b,c,d,e,f,g⟩:=h;exact k a b c d e f g
theorem Tr{α:Sort _}{β:Sort _}{A B C D I J:α->β->Prop}{G:Prop}(h:∃a b,A a b∧B a b∧C a b∧D a b∧I a b∧J a b)(k:∀a b,A a b->B a b->C a b->D a b->I a b->J a b->G):G:=by obtain⟨a,b,c,d,e,f,g,i⟩:=h;exact k a b c d e f g i
theorem wK7{α:Sort _}{β:Sort _}{A B C D I J K:α->β->Prop}{G:Prop}(h:∃a b,A a b∧B a b∧C a b∧D a b∧I a b∧J a b∧K a b)(k:∀a b,A a b->B a b->C a b->D a b->I a b->J a b->K a b->G):G:=by obtain⟨a,b,c,d,e,f,g,i,j⟩:=h;exact k a b c d e f g i j
theorem jP{α:Sort _}{β:Sort _}{γ:Sort _}{A B:α->β->γ->Prop}{G:Prop}(h:∃a b c,A a b c∧B a b c)(k:∀a b c,A a b c->B a b c->G):G:=by obtain⟨a,b,c,d,e⟩:=h;exact k a b c d e
theorem gL{α:Sort _}{β:Sort _}{γ:Sort _}{A B C:α->β->γ->Prop}{G:Prop}(h:∃a b c,A a b c∧B a b c∧C a b c)(k:∀a b c,A a b c->B a b c->C a b c->G):G:=by obtain⟨a,b,c,d,e,f⟩:=h;exact k a b c d e f
theorem Ts{α:Sort _}{β:Sort _}{γ:Sort _}{A B C D:α->β->γ->Prop}{G:Prop}(h:∃a b c,A a b c∧B a b c∧C a b c∧D a b c)(k:∀a b c,A a b c->B a b c->C a b c->D a b c->G):G:=by obtain⟨a,b,c,d,e,f,g⟩:=h;exact k a b c d e f g
theorem K9{α:Sort _}{β:Sort _}{γ:Sort _}{A B C D I:α->β->γ->Prop}{G:Prop}(h:∃a b c,A a b c∧B a b c∧C a b c∧D a b c∧I a b c)(k:∀a b c,A a b c->B a b c->C a b c->D a b c->I a b c->G):G:=by obtain⟨a,b,c,d,e,f,g,i⟩:=h;exact k a b c d e f g i
theorem tZ{α:Sort _}{β:Sort _}{γ:Sort _}{A B C D I J:α->β->γ->Prop}{G:Prop}(h:∃a b c,A a b c∧B a b c∧C a b c∧D a b c∧I a b c∧J a b c)(k:∀a b c,A a b c->B a b c->C a b c->D a b c->I a b c->J a b c->G):G:=by obtain⟨a,b,c,d,e,f,g,i,j⟩:=h;exact k a b c d e f g i j
theorem tW{α:Sort _}{β:Sort _}{γ:Sort _}{δ:Sort _}{A B:α->β->γ->δ->Prop}{G:Prop}(h:∃a b c d,A a b c d∧B a b c d)(k:∀a b c d,A a b c d->B a b c d->G):G:=by obtain⟨a,b,c,d,e,f⟩:=h;exact k a b c d e f
theorem Ws{α:Sort _}{β:Sort _}{γ:Sort _}{δ:Sort _}{A B C:α->β->γ->δ->Prop}{G:Prop}(h:∃a b c d,A a b c d∧B a b c d∧C a b c d)(k:∀a b c d,A a b c d->B a b c d->C a b c d->G):G:=by obtain⟨a,b,c,d,e,f,g⟩:=h;exact k a b c d e f g
theorem Tb{α:Sort _}{β:Sort _}{γ:Sort _}{δ:Sort _}{A B C D:α->β->γ->δ->Prop}{G:Prop}(h:∃a b c d,A a b c d∧B a b c d∧C a b c d∧D a b c d)(k:∀a b c d,A a b c d->B a b c d->C a b c d->D a b c d->G):G:=by obtain⟨a,b,c,d,e,f,g,i⟩:=h;exact k a b c d e f g i
theorem wR2{α:Sort _}{β:Sort _}{γ:Sort _}{δ:Sort _}{ε:Sort _}{A:α->β->γ->δ->ε->Prop}{G:Prop}(h:∃a b c d e,A a b c d e)(k:∀a b c d e,A a b c d e->G):G:=by obtain⟨a,b,c,d,e,f⟩:=h;exact k a b c d e f
theorem wU2{α:Sort _}{β:Sort _}{γ:Sort _}{δ:Sort _}{ε:Sort _}{A B:α->β->γ->δ->ε->Prop}{G:Prop}(h:∃a b c d e,A a b c d e∧B a b c d e)(k:∀a b c d e,A a b c d e->B a b c d e->G):G:=by obtain⟨a,b,c,d,e,f,g⟩:=h;exact k a b c d e f g
theorem wL3{α:Sort _}{β:Sort _}{γ:Sort _}{δ:Sort _}{ε:Sort _}{A B C:α->β->γ->δ->ε->Prop}{G:Prop}(h:∃a b c d e,A a b c d e∧B a b c d e∧C a b c d e)(k:∀a b c d e,A a b c d e->B a b c d e->C a b c d e->G):G:=by obtain⟨a,b,c,d,e,f,g,i⟩:=h;exact k a b c d e f g i
inductive Is:Value->AV->Prop
 |none:Is .none .none
 |bool (b:Bool):Is (.bool b) (.bool b)
 |int (i:Int) (t:Tok):Is (.int i t) (.int i)
 |str (k:Nat) (t:Tok) (h:k<NN):Is (.str (nm k) t) (.str k)
 |ref (a:Addr):Is (.ref a) (.ref a)
inductive zK{α β:Type}(R:α->β->Prop):List α->List β->Prop
 |nil:zK R [] []
 |cons {a b l l'}:R a b->zK R l l'->zK R (a::l) (b::l')
inductive Fk:Option Value->Option AV->Prop
 |none:Fk none none
 |some {v a}:Is v a->Fk (some v) (some a)
noncomputable abbrev M:=Nat->Option AV
noncomputable def up(f:M)(k:Nat)(v:AV):M:=λx=>if x=k then some v else f x
set_option genSizeOf false in
inductive Cell where
 |obj (C d:Addr)
 |dat (owner:Addr) (l:List (Nat×AV))
 |lst (tg:Nat) (vs:List AV)
 |tup (vs:List AV)
 |sd (tg:Nat) (l:List (Nat×AV))
 |td (tg:Nat) (l:List (Nat×Addr×AV))
 |yT (l:List (Int×AV))
 |qG (k:Nat) (v:Option AV)
 |fn (c:Nat) (cs:List (Nat×Addr))
 |exc (C d:Addr)
 |cB (C:Addr)
 |Ju
 |tab (l:List (Nat×Addr))
noncomputable abbrev Kp:=Addr->Option Cell
theorem Kn(h:Q 0xFCA86420 {s with toks:=s.toks+1}):D8 (model prog w) A (pyHash .none) Q E s:=by
 have a:s.TypeIs .none "NoneType":=rfl;show D8 _ _ (wM5 .none) Q E s;unfold wM5;refine R8 ?_;rw[cRoomFor,D9 (by decide)];refine S5 ?_;refine R8 (wM6 a F.slot_NoneType_hash.lookup ?_);show D8 _ _ (if(some (Value.builtin "NoneType.__hash__")==some Value.none)=true then _ else _) Q E s;rw[D9 (by rw[beq_builtin_none];exact Bool.false_ne_true)];refine R8 (wM6 a F.slot_NoneType_hash.lookup ?_);refine R8 (wpAny_callSpecialIfBoundUnlessNone?_slot a F.slot_NoneType_hash (qQ9 F.slot_NoneType_hash a F.entry_NoneType_hash
  (show D8 _ _ (do ret (<-mkInt 0xFCA86420)) _ _ s from wpAny_ret_mkInt ?_) (F.args_NoneType_hash_1 _)))
 show D8 _ _ (if(decide (-(2:Int)^63≤0xFCA86420)&&decide ((0xFCA86420:Int)<2^63))=true then _ else _) Q E _;refine qX (A3 (by decide)) ?_;exact S5 h
theorem Tc(h:Q false s):D8 (model prog w) A (eqBool .none (.str x t)) Q E s:=by
 unfold eqBool;refine qX (D9 (by exact Bool.false_ne_true)) ?_;refine O4 ?_;exact R8 (show D8 (model prog w) A (A9 .Eq .none (.str x t)) _ E s from EqNone.eq_none_str (qS1 h))
theorem Td(h:Q false s):D8 (model prog w) A (eqBool (.str x t) .none) Q E s:=by
 unfold eqBool;refine qX (D9 (by exact Bool.false_ne_true)) ?_;refine O4 ?_;exact R8 (show D8 (model prog w) A (A9 .Eq (.str x t) .none) _ E s from EqNone.eq_str_none (qS1 h))
theorem Ft{a b:Option Str}{u v:Value}{Q:Bool->S8->Prop}(c:Option Str->Value->Bool)(n:∀{v},c none v=true->v=.none)(g:∀{x v},c (some x) v=true->∃t,v=.str x t)
  (i:c a u=true) (f:c b v=true) (h:Q (decide (a=b)) s):D8 (model prog w) A (eqBool u v) Q E s:=by
 cases a with
 |none=>
  obtain rfl:=n i;cases b with
  |none=>
   obtain rfl:=n f;unfold PySem.eqBool;refine qX (A3 (by rfl)) ?_;exact R8 (qE0 (S5 (by simpa using h)))
  |some y=>
   refine zH (g f) λt d=>?_;subst d;exact Tc (by simpa using h)
 |some x=>
  refine zH (g i) λt d=>?_;subst d;cases b with
  |none=>
   obtain rfl:=n f;exact Td (by simpa using h)
  |some y=>
   refine zH (g f) λj d=>?_;subst d;refine wpAny_eqBool_str ?_;have e:decide (some x=some y)=decide (x=y):=by simp
   rw[e] at h;exact h
noncomputable def qC3:Option Str->Value->Bool
 |some x,v=>Value.isStrOf x v
 |none,v=>v==.none
theorem uJ(h:qC3 none v=true):v=.none:=beq_iff_eq.mp h
theorem jI(h:qC3 (some x) v=true):∃t,v=.str x t:=Value.isStrOf_shape h
noncomputable def zJ6(c:Program)(w:qQ2):KeyKind c w (Option Str) where
 is:=qC3
 hash:=λ|some x=>hashStr w x|none=>0xFCA86420
 inj:=λv a b g f=>by
  cases a with
  |none=>
   obtain rfl:=uJ g;cases b with
   |none=>rfl
   |some y=>obtain⟨t,e⟩:=jI f;cases e
  |some x=>
   refine zH (jI g) λt i=>?_;subst i;cases b with
   |none=>cases uJ f
   |some y=>obtain⟨j,e⟩:=jI f;cases e;rfl
 byValue:=λk v h=>by
  cases k with
  |none=>obtain rfl:=uJ h;rfl
  |some x=>obtain⟨t,rfl⟩:=jI h;rfl
 pyHash:=λ{A E s k v Q} d h=>by
  cases k with
  |none=>obtain rfl:=uJ d;exact Kn h
  |some x=>obtain⟨t,rfl⟩:=jI d;exact wpAny_pyHash_str h
 eqBool:=λl d h=>Ft qC3 uJ jI l d h
 «strs»:=λk x t v h=>by
  cases k with
  |none=>cases uJ h
  |some y=>
   refine zH (jI h) λj e=>?_;cases e;cases v<;>rfl
section
set_option genSizeOf false
set_option genInjectivity false
structure St where
 obj:Nat->Addr->Option M
 lst:Nat->Addr->Option (List AV)
 tup:Addr->Option (List AV)
 sd:Nat->Addr->Option (List (Nat×AV))
 td:Nat->Addr->Option (List (Nat×Addr×AV))
 yT:Addr->Option (List (Int×AV))
 qG:Nat->Addr->Option (Option AV)
 fn:Nat->Addr->Option (List (Nat×Addr))
 exc:Nat->Addr->Option M
 tab:Addr->Option (List (Nat×Addr))
noncomputable def zE(l:List (Nat×AV)):M:=λk=>l.lookup k
def wF9(κ:Kp)(C:Nat)(a:Addr)(f:M):Prop:=(κ a=some (.cB C)∧f=λ_=>none)∨∃d l,κ a=some (.exc C d)∧κ d=some (.dat a l)∧f=zE l
structure View(κ:Kp)(H:St):Prop where
 obj:∀C a f,H.obj C a=some f->∃d l,κ a=some (.obj C d)∧κ d=some (.dat a l)∧f=zE l
 lst:∀t a vs,H.lst t a=some vs->κ a=some (.lst t vs)
 tup:∀a vs,H.tup a=some vs->κ a=some (.tup vs)
 sd:∀t a l,H.sd t a=some l->κ a=some (.sd t l)
 td:∀t a l,H.td t a=some l->κ a=some (.td t l)
 yT:∀a l,H.yT a=some l->κ a=some (.yT l)
 qG:∀k a v,H.qG k a=some v->κ a=some (.qG k v)
 fn:∀c a l,H.fn c a=some l->κ a=some (.fn c l)
 exc:∀C a f,H.exc C a=some f->wF9 κ C a f
 tab:∀a c,H.tab a=some c->κ a=some (.tab c)
noncomputable def yE:Array Value:=#[.int 1 1041,.int 0 1042,.int 3 1043,.int 1 1044,.int 1 1045,.int 0 1046,.int 1 1047,.int 1 1048,.int 0 1049,.int 0 1050,.int 0 1051,.int 0 1052,.int 0 1053,.int 0 1054,.int 0 1055,.int 1 1056,.int 4 1057,.int 1 1058,.int 0 1059,.int 1 1060,.int 2 1061]
noncomputable def tX(p:Params):Obj:={cls:=.type "dict",data:=.dict #[⟨qR6 p (Str.ofString "a"),.str "a" 1063,.str "b" 1064⟩,⟨qR6 p (Str.ofString "b"),.str "b" 1065,.str "c" 1066⟩,⟨qR6 p (Str.ofString "c"),.str "c" 1067,.str "a" 1068⟩] 3}
structure Ctx where
 w:qQ2
 K:Frag
 ch:Frag->Bool
 h₀:Heap
 os:qF9
 hd:Option Value
 mg:Str->Option Value
 mb:Str->Option Value
structure pK(kv:Str×Value)(p:Nat×AV):Prop where
 lt:p.1<NN
 key:kv.1=nm p.1
 val:Is kv.2 p.2
structure Te(kv:Int×Value)(p:Int×AV):Prop where
 key:kv.1=p.1
 val:Is kv.2 p.2
structure Fb(x:List (Option Str)×Addr×Value)(p:Nat×Addr×AV):Prop where
 lt:p.1<NN
 key:x.1=[some (nm p.1),none]
 at_:x.2.1=p.2.1
 val:Is x.2.2 p.2.2
noncomputable abbrev SK(w:qQ2):=strKind O7 w
noncomputable abbrev IK(w:qQ2):=intKind O7 w
noncomputable abbrev QK(w:qQ2):=tupleKind (zJ6 O7 w)
structure FD where
 params:Arguments
 body:List Stmt
 scope:Scope
 pos:Pos
noncomputable def FD.step(x:Str)(s:Stmt)(k:Option FD):Option FD:=@Stmt.casesOn (λ_=>Option FD) s (λn a b _ _ _ s _ _ p=>if n==x then some ⟨a,b,s,p⟩ else k) (λ_ _ _ _ _ _ _ _ _ _=>k) (λ_ _ _ _ _ _ _ _ _ _ _=>k) (λ_ _=>k) (λ_ _=>k) (λ_ _ _=>k) (λ_ _ _ _ _ _ _=>k) (λ_ _ _ _=>k) (λ_ _ _ _ _=>k) (λ_ _ _ _ _=>k) (λ_ _ _ _ _=>k) (λ_ _ _ _=>k) (λ_ _ _ _=>k) (λ_ _ _=>k) (λ_ _ _=>k) (λ_ _ _=>k) (λ_ _ _=>k) (λ_ _ _ _ _=>k) (λ_ _ _ _ _=>k) (λ_ _ _=>k) (λ_ _=>k) (λ_ _ _ _=>k) (λ_ _=>k) (λ_ _=>k) (λ_ _=>k) (λ_=>k) (λ_=>k) (λ_=>k)
noncomputable def FD.find(x:Str):List Stmt->Option FD
 |[]=>none
 |s::r=>FD.step x s (FD.find x r)
noncomputable def eU(K:Frag)(f:Addr)(y:Str):Option FD:=match K.lookup f with
 |some o=>(match o.data with
  |.func fd=>(match fd.body with
   |.stmts b=>FD.find y b
   |_=>none)
  |_=>none)
 |none=>none
noncomputable def uR(K:Frag)(c:Nat):Option FD:=if c=222 then eU K 600 (nm c) else if c=210 then eU K 648 (nm c) else if c=195 then eU K 648 (nm c) else none
noncomputable def cC:List Nat:=[222,210,195]
noncomputable def Xr(K:Frag):Bool:=cC.all λc=>cC.all λa=>Nat.beq c a||!(match uR K c,uR K a with
 |some d,some b=>(d.pos.line==b.pos.line)&&(d.pos.col==b.pos.col)
 |_,_=>false)
noncomputable def pL(c:Nat):Str:=if c=222 then "_law_serves.<locals>._law_is_open" else if c=210 then "law.<locals>._law_choose" else "law.<locals>._law_again"
noncomputable def qF4(K:Frag)(l:List (Nat×Addr)):List Value:=l.flatMap λp=>match uR K p.1 with|some d=>[qZ2 d.pos.line,qZ2 d.pos.col,.ref p.2]|none=>[]
structure Ctx.Ok(Z:Ctx):Prop where
 X:Z.K.In Z.h₀
 ch:Z.ch Z.K=true
 pos:Xr Z.K=true
 rest:Z.h₀.get? 566=some {cls:=.type "tuple",data:=.seq yE}
 M3:Z.h₀.get? 567=some (tX Z.w.params)
 G:Z.h₀.Ns qQ3 Z.mg
 B:Z.h₀.Ns qL2 Z.mb
 mb:∀x:Str,x≠"__name__"->Z.mb x=qS2 x
 nolimit:Z.h₀.NoLimit
 bmain:∃bm ob,Z.mg "__builtins__"=some (.ref bm)∧bm≠qL2∧Z.h₀.get? bm=some ob∧ob.cls=.type "module"∧ob.dict=some qL2∧ob.data=.plain
structure FnAtH(K:Frag)(κ:Kp)(h:Heap)(a:Addr)(c:Nat)(cs:List (Nat×Addr)):Prop where
 ex:∃fd d ct c',h.get? a=some {cls:=.type "function",data:=.func fd}∧uR K c=some d∧
  fd={name:=nm c,qualname:=pL c,params:=d.params,body:=.stmts d.body,scope:=d.scope,globals:=qQ3,closure:=cs.map λp=>(nm p.1,p.2),closureTuple:=ct,code:=.ref c',builtins:=qL2,defaults:=.none,kwdefaults:=.none,annotations:=fd.annotations,pyModule:=fd.pyModule,doc:=fd.doc}∧
  h.CodeRec (.ref c') (pL c)∧κ c'=none
def IsL(h:Heap)(a:Addr)(b:List Value):Prop:=∃n,h.get? a=some {cls:=.type "list",dict:=none,data:=.seq b.toArray n,slots:=#[]}
theorem IsL.isList(x:IsL h a xs):h.IsList a xs.toArray:=zH x λn e=>zU _ e rfl (yU n rfl)
theorem IsL.noDict(x:IsL h a xs):h.NoDictAt (.ref a):=zH x λn e=>qZ _ e rfl
def fO(w:qQ2)(h:Heap)(d:Addr)(a:List (List (Option Str)×Addr×Value)):Prop:=
 ∃o es,h.get? d=some o∧o.ExactDict∧o.data=.dict es a.length∧es.toList=a.map (wY3 (QK w))∧(∀x∈a,(QK w).is h x.1 x.2.1)∧(a.map (·.1)).Nodup
theorem fO.Jk(x:fO w h d xs):h.DictOfH (QK w) d xs:=Wr x λo a r=>wN8 o a xs.length r
def Wt(κ:Kp)(vs:Array Value):Prop:=∃x,(vs[1]?=some x∧vs[2]?=some .none)∧(x=.none∨∃T,x=.ref T∧κ T=some .Ju)
def yQ(Z:Ctx)(κ:Kp)(h:Heap)(a:Addr):Cell->Prop
 |.obj C d=>h.get? a=some (qK7 C d)
 |.dat _ l=>∃kvs,h.DictOf (SK Z.w) a kvs∧zK pK kvs l
 |.lst _ b=>∃xs:List Value,IsL h a xs∧zK Is xs b∧b.length<2^40
 |.tup b=>∃xs:List Value,IsTup h a xs.toArray∧zK Is xs b∧b.length<2^40
 |.sd _ l=>∃kvs,h.DictOf (SK Z.w) a kvs∧zK pK kvs l
 |.td _ l=>∃xs,fO Z.w h a xs∧zK Fb xs l∧∀p∈l,κ p.2.1=some (.tup [.str p.1,.none])
 |.yT l=>∃kvs,h.DictOf (IK Z.w) a kvs∧zK Te kvs l
 |.qG _ v=>∃o ov,h.get? a=some o∧o.data=.cell ov∧Fk ov v
 |.fn c e=>FnAtH Z.K κ h a c e
 |.exc C d=>∃o b,h.get? a=some o∧o.cls=.ref C∧o.dict=some d∧o.data=.fields b∧Wt κ b
 |.cB C=>∃o b,h.get? a=some o∧o.cls=.ref C∧o.dict=none∧o.data=.fields b∧Wt κ b
 |.Ju=>∃o b,h.get? a=some o∧o.data=.fields b∧3<b.size
 |.tab l=>h.get? a=some (qR0 (qF4 Z.K l).toArray)∧∀p∈l,κ p.2=none∧h.CodeRec (.ref p.2) (pL p.1)
structure Rep(Z:Ctx)(κ:Kp)(s:S8)(H:St):Prop where
 old:∀b o,Z.h₀.get? b=some o->s.heap.get? b=some o
 cells:∀a c,κ a=some c->yQ Z κ s.heap a c∧Z.h₀.get? a=none∧3<a
 view:View κ H
 gens:s.gens=#[]
 os:s.os=Z.os
structure uW(Z:Ctx)(A:O3)(n:Nat):Prop where
 depth:A.depth+2*n+2≤900
 units:A.units+40*n+100≤9000
 hd:A.handled=Z.hd
def OIw(o:Option Value)(a:Option AV):Prop:=∀x,a=some x->∃v,o=some v∧Is v x
theorem Fk.w(h:Fk o a):OIw o a:=λx e=>by
 cases h with
 |none=>exact uZ e
 |some i=>cases e;exact qZ _ rfl i
structure wN(κ:Kp)(h:Heap)(L:Addr)(m:M):Prop where
 own:κ L=none
 ns:∃mm,h.Ns L mm∧∀k,k<NN->OIw (mm (nm k)) (m k)
structure cD(Z:Ctx)(κ:Kp)(h:Heap)(eV:Env):Prop where
 kind:eV.scope.kind=.function
 at_:∃L m,eV.frame=some L∧h.Ns L m∧κ L=none∧Z.h₀.get? L=none
structure mA(Z:Ctx)(κ:Kp)(A:O3)(h:Heap):Prop where
 ex:∃outer,A.frames=some outer∧∀eV∈outer,cD Z κ h eV
def yL(κ:Kp)(h:Heap)(a:Kp)(h':Heap):Prop:=∀b o,h.get? b=some o->κ b=none->h'.get? b=some o∧a b=none
def Er(L:Addr)(κ:Kp)(h:Heap)(a:Kp)(h':Heap):Prop:=∀b o,b≠L->h.get? b=some o->κ b=none->h'.get? b=some o∧a b=none
def Nd(o:Obj):Prop:=∀es ep,o.data≠.dict es ep
def jO(κ:Kp)(h:Heap)(a:Kp)(h':Heap):Prop:=∀b o,h.get? b=some o->κ b=none->a b=none∧∃sl,h'.get? b=some {o with slots:=sl}∧(Nd o->sl=o.slots)
def oZ(κ:Kp)(h:Heap):Option (Addr×M)->Prop
 |none=>True
 |some (L,m)=>wN κ h L m
def R9(Z:Ctx)(n:Nat)(lc:Option (Addr×M)){α:Type}(t:Sem α)(H:St)(Q:α->St->Prop)(R:Value->St->Prop):Prop:=
 ∀(A:O3)(E:Value->S8->Prop)(Qc:α->S8->Prop)(κ:Kp)(s:S8),uW Z A n->mA Z κ A s.heap->Rep Z κ s H->oZ κ s.heap lc->
  (∀v s' κ' H',Rep Z κ' s' H'->yL κ s.heap κ' s'.heap->Q v H'->Qc v s')->
  (∀e s' κ' H',Rep Z κ' s' H'->jO κ s.heap κ' s'.heap->R e H'->E e s')->
  D8 (model O7 Z.w) A t Qc E s
theorem yL.refl(κ:Kp)(h:Heap):yL κ h κ h:=λ_ _ e k=>⟨e,k⟩
theorem yL.trans{κ c a:Kp}{h h' d:Heap}(x:yL κ h c h')(y:yL c h' a d):yL κ h a d:=λb o e k=>qK (x b o e k) λf g=>y b o f g
theorem jO.of{κ c a:Kp}{h h' d:Heap}(x:yL κ h c h')(y:jO c h' a d):jO κ h a d:=λb o e k=>qK (x b o e k) λf g=>y b o f g
section
variable{Z:Ctx}{κ κ' κ'':Kp}{h h' h'':Heap}
theorem jO.refl:jO κ h κ h:=λb o e k=>pS k (qZ o.slots e (λ_=>rfl))
theorem jO.trans(x:jO κ h κ' h')(y:jO κ' h' κ'' h''):jO κ h κ'' h'':=λb o e k=>by
 refine qK (x b o e k) λc a=>qY a λm d f=>qK (y b _ d c) λg a=>qY a λi j l=>?_;exact⟨g,i,j,λn=>(l n).trans (f n)⟩
theorem yL.G9(x:yL κ h κ' h'):jO κ h κ' h':=.of x .refl
theorem tY(b:h.Ns L m)(e:h.get? L=some o)(a:h'.get? L=some {o with slots:=sl}):h'.Ns L m:=by
 refine jP b λf c d g r=>?_;obtain rfl:=sj e g;exact jN _ c d a r
theorem cD.tJ{eV:Env}(x:cD Z κ h eV)(y:jO κ h κ' h'):cD Z κ' h' eV:=by
 obtain⟨k,L,m,f,b,c,z⟩:=x;refine jP (id b) λo i j g r=>qK (y L o g c) λa d=>qY d λl e _=>?_;exact⟨k,L,m,f,tY b g e,a,z⟩
theorem wN.tJ{L:Addr}{m:M}(x:wN κ h L m)(y:jO κ h κ' h'):wN κ' h' L m:=by
 obtain⟨k,b,a,c⟩:=x;refine jP (id a) λo i j g r=>qK (y L o g k) λd e=>qY e λl f _=>?_;exact⟨d,b,tY a g f,c⟩
theorem mA.tJ{A:O3}(x:mA Z κ A h)(y:jO κ h κ' h'):mA Z κ' A h':=let ⟨outer,e,q⟩:=x;⟨outer,e,λa b=>(q a b).tJ y⟩
end
theorem wN.pT{κ a:Kp}{h h':Heap}{L:Addr}{m:M}(x:wN κ h L m)(y:yL κ h a h'):wN a h' L m:=by
 obtain⟨k,b,⟨o,c,d,e,r⟩,f⟩:=x;obtain⟨g,i⟩:=y L o e k;exact⟨i,b,jN o c d g r,f⟩
theorem oZ.pT{κ a:Kp}{h h':Heap}{lc:Option (Addr×M)}(x:oZ κ h lc)(y:yL κ h a h'):oZ a h' lc:=by
 cases lc with
 |none=>trivial
 |some p=>exact wN.pT x y
theorem mA.pT{Z:Ctx}{κ b:Kp}{A:O3}{h h':Heap}(x:mA Z κ A h)(y:yL κ h b h'):mA Z b A h':=by
 obtain⟨a,e,q⟩:=x;refine⟨a,e,λd i=>?_⟩;obtain⟨k,L,m,f,⟨o,j,l,g,r⟩,n,z⟩:=q d i;obtain⟨p,c⟩:=y L o g n;exact⟨k,L,m,f,jN o j l p r,c,z⟩
theorem R9.bind(x:R9 Z n lc t H (λv H'=>R9 Z n lc (f v) H' Q R) R):R9 Z n lc (t>>=f) H Q R:=by
 intro A E o p s i j u l k m;refine R8 (x A E _ p s i j u l (λv w d H' g y q=>?_) m);exact q A E o d w i (j.pT y) g (l.pT y) (λv b a c r f h=>k v b a c r (y.trans f) h) (λe b a c r f h=>m e b a c r (.of y f) h)
theorem R9.pure(q:Q a H):R9 Z n lc (pure a) H Q R:=by
 intro A E d b s _ _ c _ k _;exact S5 (k a s b H c (yL.refl _ _) q)
theorem R9.mono(x:R9 Z n lc t H Q R)(g:∀v H',Q v H'->Q' v H')(f:∀v H',R v H'->R' v H'):R9 Z n lc t H Q' R':=by
 intro A E h i s j l m o k p;exact x A E h i s j l m o (λv e d H' a b c=>k v e d H' a b (g _ _ c)) (λv e d H' a b c=>p v e d H' a b (f _ _ c))
theorem R9.N9(x:R9 Z n none t H Q R):R9 Z n lc t H Q R:=by
 intro A E a b s c d e g k f;exact x A E a b s c d e trivial k f
end
noncomputable def wM(κ:Kp)(b:Addr)(c:Cell):Kp:=λx=>if x=b then some c else κ x
theorem zG(κ:Kp)(b:Addr)(c:Cell):wM κ b c b=some c:=by simp[wM]
theorem zM(h:x≠b):wM κ b c x=κ x:=by simp[wM,h]
namespace St
noncomputable def qL(H:St)(C:Nat)(a:Addr)(f:M):St:={H with obj:=λb c=>if b=C∧c=a then some f else H.obj b c}
noncomputable def qQ(H:St)(t:Nat)(a:Addr)(vs:List AV):St:={H with lst:=λb c=>if b=t∧c=a then some vs else H.lst b c}
noncomputable def zQ(H:St)(a:Addr)(vs:List AV):St:={H with tup:=λb=>if b=a then some vs else H.tup b}
noncomputable def xV(H:St)(t:Nat)(a:Addr)(l:List (Nat×AV)):St:={H with sd:=λb c=>if b=t∧c=a then some l else H.sd b c}
noncomputable def xD(H:St)(t:Nat)(a:Addr)(l:List (Nat×Addr×AV)):St:={H with td:=λb c=>if b=t∧c=a then some l else H.td b c}
noncomputable def wR(H:St)(a:Addr)(l:List (Int×AV)):St:={H with yT:=λb=>if b=a then some l else H.yT b}
noncomputable def qU(H:St)(k:Nat)(a:Addr)(v:Option AV):St:={H with qG:=λb c=>if b=k∧c=a then some v else H.qG b c}
noncomputable def lC(H:St)(c:Nat)(a:Addr)(l:List (Nat×Addr)):St:={H with fn:=λb d=>if b=c∧d=a then some l else H.fn b d}
noncomputable def vQ(H:St)(a:Addr)(c:List (Nat×Addr)):St:={H with tab:=λb=>if b=a then some c else H.tab b}
end St
theorem View.kgrow(V:View κ H)(k:∀x c,κ x=some c->κ' x=some c):View κ' H where
 obj:=λC a f e=>wV (V.obj C a f e) λd l p q r=>xO d l (k _ _ p) (k _ _ q) r
 lst:=λt a b e=>k _ _ (V.lst t a b e)
 tup:=λa b e=>k _ _ (V.tup a b e)
 sd:=λt a b e=>k _ _ (V.sd t a b e)
 td:=λt a b e=>k _ _ (V.td t a b e)
 yT:=λa b e=>k _ _ (V.yT a b e)
 qG:=λt a b e=>k _ _ (V.qG t a b e)
 fn:=λt a b e=>k _ _ (V.fn t a b e)
 exc:=λC a f e=>(V.exc C a f e).imp (λp=>⟨k _ _ p.1,p.2⟩) λg=>wV g λd l p q r=>xO d l (k _ _ p) (k _ _ q) r
 tab:=λa b e=>k _ _ (V.tab a b e)
theorem Ta(d:κ b=none):∀x a,κ x=some a->wM κ b c x=some a:=λx a e=>by
 rw[zM]
 ·exact e
 ·rintro rfl;rw[d] at e;cases e
theorem View.fresh(V:View κ H)(a:κ b=none):View (wM κ b c) H:=V.kgrow (Ta a)
noncomputable def Cell.kd:Cell->Nat
 |.obj ..=>0|.dat ..=>1|.lst ..=>2|.tup ..=>3|.sd ..=>4|.td ..=>5|.yT ..=>6|.qG ..=>7|.fn ..=>8|.exc ..=>9|.cB ..=>10|.Ju=>11|.tab ..=>12
theorem yO(d:κ b=some c₀){a:Cell}(e:κ x=some a)(n:Nat.beq c₀.kd a.kd=false):wM κ b c x=some a:=by
 rw[zM]
 ·exact e
 ·rintro rfl;rw[sj d e,Nat.beq_refl] at n;exact Bool.noConfusion n
structure VB(κ':Kp)(H:St)(K:Nat):Prop where
 obj:Nat.beq K 0=false->Nat.beq K 1=false->∀C a f,H.obj C a=some f->∃d l,κ' a=some (.obj C d)∧κ' d=some (.dat a l)∧f=zE l
 lst:Nat.beq K 2=false->∀t a vs,H.lst t a=some vs->κ' a=some (.lst t vs)
 tup:Nat.beq K 3=false->∀a vs,H.tup a=some vs->κ' a=some (.tup vs)
 sd:Nat.beq K 4=false->∀t a l,H.sd t a=some l->κ' a=some (.sd t l)
 td:Nat.beq K 5=false->∀t a l,H.td t a=some l->κ' a=some (.td t l)
 yT:Nat.beq K 6=false->∀a l,H.yT a=some l->κ' a=some (.yT l)
 qG:Nat.beq K 7=false->∀k a v,H.qG k a=some v->κ' a=some (.qG k v)
 fn:Nat.beq K 8=false->∀c a l,H.fn c a=some l->κ' a=some (.fn c l)
 exc:Nat.beq K 9=false->Nat.beq K 10=false->Nat.beq K 1=false->∀C a f,H.exc C a=some f->wF9 κ' C a f
 tab:Nat.beq K 12=false->∀a c,H.tab a=some c->κ' a=some (.tab c)
theorem View.but(V:View κ H)(h:κ b=some c₀):VB (wM κ b c) H c₀.kd where
 obj:=λn m C a f e=>wV (V.obj C a f e) λd l p q r=>xO d l (yO h p n) (yO h q m) r
 lst:=λn t a g e=>yO h (V.lst t a g e) n
 tup:=λn a g e=>yO h (V.tup a g e) n
 sd:=λn t a g e=>yO h (V.sd t a g e) n
 td:=λn t a g e=>yO h (V.td t a g e) n
 yT:=λn a g e=>yO h (V.yT a g e) n
 qG:=λn t a g e=>yO h (V.qG t a g e) n
 fn:=λn t a g e=>yO h (V.fn t a g e) n
 exc:=λn i m C a f e=>(V.exc C a f e).imp (λp=>⟨yO h p.1 i,p.2⟩) λj=>wV j λd l p q r=>xO d l (yO h p n) (yO h q m) r
 tab:=λn a g e=>yO h (V.tab a g e) n
theorem tV{α:Type}{p P:Prop} [Decidable p]{u v:α}{o:Option α}(e:(if p then some u else o)=some v)(b:p->u=v->P)(a:¬p->o=some v->P):P:=by
 by_cases q:p
 ·rw[A3 q] at e;exact b q (B5 e)
 ·rw[D9 q] at e;exact a q e
theorem vS{c d:Cell}(h:a=b)(e:c=d):wM κ b c a=some d:=by rw[h,zG,e]
theorem jY{a:Cell}(z:κ x=some a)(d:κ b=some c₀)(n:c₀=a->x=b->False):wM κ b c x=some a:=by
 rw[zM]
 ·exact z
 ·rintro rfl;exact n (sj d z) rfl
theorem View.Jl{t:Nat}{d vs:List AV}(V:View κ H)(g:κ b=some (.lst t d)):View (wM κ b (.lst t vs)) (H.qQ t b vs):=
 have B:=V.but (c:=.lst t vs) g
 ⟨B.obj rfl rfl,λh a f e=>tV e (λq z=>vS q.2 (qX q.1 (qX z rfl))) λq e=>jY (V.lst h a f e) g λz x=>q ⟨(Cell.lst.inj z).1.symm,x⟩,B.tup rfl,B.sd rfl,B.td rfl,B.yT rfl,B.qG rfl,B.fn rfl,B.exc rfl rfl rfl,B.tab rfl⟩
theorem View.putSd{t:Nat}{d l:List (Nat×AV)}(V:View κ H)(g:κ b=some (.sd t d)):View (wM κ b (.sd t l)) (H.xV t b l):=
 have B:=V.but (c:=.sd t l) g
 ⟨B.obj rfl rfl,B.lst rfl,B.tup rfl,λh a f e=>tV e (λq z=>vS q.2 (qX q.1 (qX z rfl))) λq e=>jY (V.sd h a f e) g λz x=>q ⟨(Cell.sd.inj z).1.symm,x⟩,B.td rfl,B.yT rfl,B.qG rfl,B.fn rfl,B.exc rfl rfl rfl,B.tab rfl⟩
theorem View.putTd{t:Nat}{d l:List (Nat×Addr×AV)}(V:View κ H)(g:κ b=some (.td t d)):View (wM κ b (.td t l)) (H.xD t b l):=
 have B:=V.but (c:=.td t l) g
 ⟨B.obj rfl rfl,B.lst rfl,B.tup rfl,B.sd rfl,λh a f e=>tV e (λq z=>vS q.2 (qX q.1 (qX z rfl))) λq e=>jY (V.td h a f e) g λz x=>q ⟨(Cell.td.inj z).1.symm,x⟩,B.yT rfl,B.qG rfl,B.fn rfl,B.exc rfl rfl rfl,B.tab rfl⟩
theorem View.putIdc{d l:List (Int×AV)}(V:View κ H)(g:κ b=some (.yT d)):View (wM κ b (.yT l)) (H.wR b l):=
 have B:=V.but (c:=.yT l) g
 ⟨B.obj rfl rfl,B.lst rfl,B.tup rfl,B.sd rfl,B.td rfl,λa f e=>tV e (λq z=>vS q (qX z rfl)) λq e=>jY (V.yT a f e) g λz x=>q x,B.qG rfl,B.fn rfl,B.exc rfl rfl rfl,B.tab rfl⟩
theorem View.putCel{k:Nat}{d l:Option AV}(V:View κ H)(g:κ b=some (.qG k d)):View (wM κ b (.qG k l)) (H.qU k b l):=
 have B:=V.but (c:=.qG k l) g
 ⟨B.obj rfl rfl,B.lst rfl,B.tup rfl,B.sd rfl,B.td rfl,B.yT rfl,λh a f e=>tV e (λq z=>vS q.2 (qX q.1 (qX z rfl))) λq e=>jY (V.qG h a f e) g λz x=>q ⟨(Cell.qG.inj z).1.symm,x⟩,B.fn rfl,B.exc rfl rfl rfl,B.tab rfl⟩
theorem View.putTab{d l:List (Nat×Addr)}(V:View κ H)(g:κ b=some (.tab d)):View (wM κ b (.tab l)) (H.vQ b l):=
 have B:=V.but (c:=.tab l) g
 ⟨B.obj rfl rfl,B.lst rfl,B.tup rfl,B.sd rfl,B.td rfl,B.yT rfl,B.qG rfl,B.fn rfl,B.exc rfl rfl rfl,λa f e=>tV e (λq z=>vS q (qX z rfl)) λq e=>jY (V.tab a f e) g λz x=>q x⟩
theorem View.putDat{C:Nat}{g l:List (Nat×AV)}(V:View κ H)(h:κ a=some (.obj C d))(b:κ d=some (.dat a g)):View (wM κ d (.dat a l)) (H.qL C a (zE l)):=by
 have B:=V.but (c:=.dat a l) b;refine⟨λi j f e=>tV e (λq z=>?_) λq e=>?_,B.lst rfl,B.tup rfl,B.sd rfl,B.td rfl,B.yT rfl,B.qG rfl,B.fn rfl,λi j f e=>(V.exc i j f e).imp (λp=>⟨yO b p.1 rfl,p.2⟩) λ⟨k,m,p,r,s⟩=>xO k m (yO b p rfl) (jY r b λz x=>?_) s,B.tab rfl⟩
 ·exact xO d l (qX q.2 (qX q.1 (yO b h rfl))) (vS rfl (qX q.2 rfl)) z.symm
 ·refine wV (V.obj i j f e) λk m p r s=>?_;refine xO k m (yO b p rfl) (jY r b λz x=>?_) s;rw[<-(Cell.dat.inj z).1] at p;exact q ⟨(Cell.obj.inj (sj h p)).1.symm,(Cell.dat.inj z).1.symm⟩
 ·rw[<-(Cell.dat.inj z).1] at p;exact nomatch sj h p
theorem View.cE(V:View κ H)(a:κ b=some (.lst t vs)):View κ (H.qQ t b vs):=
 {V with lst:=λd f c e=>by simp only[St.qQ] at e;split at e;(rename_i q;obtain⟨rfl,rfl⟩:=q;cases e;exact a);exact V.lst _ _ _ e}
theorem View.addTup(V:View κ H)(a:κ b=some (.tup vs)):View κ (H.zQ b vs):=
 {V with tup:=λd c e=>by simp only[St.zQ] at e;split at e;(rename_i q;obtain rfl:=q;cases e;exact a);exact V.tup _ _ e}
theorem View.Es(V:View κ H)(a:κ b=some (.sd t l)):View κ (H.xV t b l):=
 {V with sd:=λd f c e=>by simp only[St.xV] at e;split at e;(rename_i q;obtain⟨rfl,rfl⟩:=q;cases e;exact a);exact V.sd _ _ _ e}
theorem View.addTd(V:View κ H)(a:κ b=some (.td t l)):View κ (H.xD t b l):=
 {V with td:=λd f c e=>by simp only[St.xD] at e;split at e;(rename_i q;obtain⟨rfl,rfl⟩:=q;cases e;exact a);exact V.td _ _ _ e}
theorem View.addIdc(V:View κ H)(a:κ b=some (.yT l)):View κ (H.wR b l):=
 {V with yT:=λd c e=>by simp only[St.wR] at e;split at e;(rename_i q;obtain rfl:=q;cases e;exact a);exact V.yT _ _ e}
theorem View.Et(V:View κ H)(a:κ b=some (.qG k l)):View κ (H.qU k b l):=
 {V with qG:=λd f c e=>by simp only[St.qU] at e;split at e;(rename_i q;obtain⟨rfl,rfl⟩:=q;cases e;exact a);exact V.qG _ _ _ e}
theorem View.addFn(V:View κ H)(a:κ b=some (.fn k l)):View κ (H.lC k b l):=
 {V with fn:=λd f c e=>by simp only[St.lC] at e;split at e;(rename_i q;obtain⟨rfl,rfl⟩:=q;cases e;exact a);exact V.fn _ _ _ e}
theorem View.addObj(V:View κ H)(b:κ a=some (.obj C d))(c:κ d=some (.dat a l)):View κ (H.qL C a (zE l)):=
 {V with obj:=λg h f e=>by simp only[St.qL] at e;split at e;(rename_i q;obtain⟨rfl,rfl⟩:=q;cases e;exact xO d l b c rfl);exact V.obj _ _ _ e}
theorem Wt.grow(x:Wt κ vs)(k:∀T,κ T=some .Ju->κ' T=some .Ju):Wt κ' vs:=by
 refine qY x λv e r=>?_;exact qZ v e (r.imp id λa=>qY a λT b c=>qZ T b (k T c))
theorem yQ.step(m:∀x o,x≠b->h.get? x=some o->h'.get? x=some o)(hκ:∀x,x≠b->κ' x=κ x)
  (L:(∃i,κ b=some i∧∀vs,i≠.tup vs)∨h.get? b=none∨(κ b=none∧∀q,¬h.CodeRec (.ref b) q)) (ht:κ b=some .Ju->κ' b=some .Ju) (s:a≠b) (x:yQ Z κ h a c):yQ Z κ' h' a c:=by
 have R:∀T,κ T=some .Ju->κ' T=some .Ju:=λT e=>by
  by_cases q:T=b
  ·rw[q] at e⊢;exact ht e
  ·exact qX (hκ T q) e
 have ex:qW0 b h h':=λx o n e=>m x o n e;cases c with
 |obj C d=>exact m _ _ s x
 |dat o l=>obtain⟨u,q,r⟩:=x;exact qZ u (q.extBut ex s) r
 |lst t vs=>obtain⟨F,⟨o,e⟩,q⟩:=x;exact qZ F (yU o (m _ _ s e)) q
 |tup vs=>obtain⟨F,⟨o,e,r⟩,q⟩:=x;exact qZ F (qZ o (m _ _ s e) r) q
 |sd t l=>obtain⟨u,q,r⟩:=x;exact qZ u (q.extBut ex s) r
 |td t l=>
  refine zX x λF G q k=>?_;clear x;refine Tr G λo es e H D E B M=>?_;clear G;have N:∀p∈l,p.2.1≠b:=λp j=>by
   rcases L with⟨i,z,n⟩|z|⟨z,_⟩
   ·intro y;have:=k p j;rw[y,z] at this;cases this;exact n _ rfl
   rotate_left
   ·intro y;have:=k p j;rw[y,z] at this;cases this
   ·intro y;have:∃x∈F,x.2.1=p.2.1:=by
     clear D E B M k;induction q with
     |nil=>cases j
     |cons f _ O=>
      rcases E3.mp j with rfl|j
      ·exact qZ _ T3 f.at_
      ·refine qY (O j) λx w e=>?_;exact qZ x (S9 _ w) e
    refine qY this λx w ex=>?_;clear this;obtain⟨S,_,_,g,_⟩:=B x w;rw[ex,y,z] at g;cases g
  refine zU F (wV5 o es (m _ _ s e) H D E (λx w=>?_) M) q (λp j=>qX (hκ _ (N p j)) (k p j));have:∃p∈l,x.2.1=p.2.1:=by
   clear D E B M k N;induction q with
   |nil=>cases w
   |cons f _ O=>
    rcases E3.mp w with rfl|w
    ·exact qZ _ T3 f.at_
    ·refine qY (O w) λp j e=>?_;exact qZ p (S9 _ j) e
  refine qY this λp j e'=>?_;clear this;obtain⟨S,it,n,g,r⟩:=B x w;exact⟨S,it,n,m _ _ (e'▸N p j) g,r⟩
 |yT l=>obtain⟨u,q,r⟩:=x;exact qZ u (q.extBut ex s) r
 |qG k v=>obtain⟨o,ov,e,r⟩:=x;exact nS o ov (m _ _ s e) r
 |fn c cs=>
  obtain⟨fd,d,ct,P,e1,e2,e3,U,V⟩:=x;refine Ws U λc2 I vs t Q A J=>?_;clear U;obtain rfl:=Value.ref.inj Q;have K:P≠b:=by
   rcases L with W|z|X
   ·refine qY W λi z n=>?_;clear W
    rintro rfl;rw[V] at z;cases z
   ·rintro rfl;rw[z] at A;cases A
   ·refine qK X λz g=>?_;clear X;intro y3;subst y3;exact g _ ⟨_,I,vs,t,rfl,A,J⟩
  exact⟨fd,d,ct,P,m _ _ s e1,e2,e3,⟨P,I,vs,t,rfl,m _ _ K A,J⟩,qX (hκ _ K) V⟩
 |exc C d=>obtain⟨o,vs,e,H,D,E,B⟩:=x;exact Tn o vs (m _ _ s e) H D E (B.grow R)
 |cB C=>obtain⟨o,vs,e,H,D,E,B⟩:=x;exact Tn o vs (m _ _ s e) H D E (B.grow R)
 |Ju=>obtain⟨o,vs,e,r⟩:=x;exact nS o vs (m _ _ s e) r
 |tab l=>
  refine qK x λe r=>?_;clear x;refine⟨m _ _ s e,λp j=>?_⟩;refine qK (r p j) λk G=>Ws G λc2 I vs t Q A J=>?_;clear G;obtain rfl:=Value.ref.inj Q;have K:p.2≠b:=by
   rcases L with Y|z|y4
   ·refine qY Y λi z n=>?_;clear Y;intro y;rw[y,z] at k;cases k
   ·intro y;rw[y,z] at A;cases A
   ·refine qK y4 λz g=>?_;clear y4;intro y;exact g _ ⟨_,I,vs,t,rfl,y▸A,J⟩
  exact⟨qX (hκ _ K) k,p.2,I,vs,t,rfl,m _ _ K A,J⟩
section
variable{Z:Ctx}{s:S8}{H H':St}{b:Addr}{c c₀:Cell}{h':Heap}
theorem yQ.some(x:yQ Z κ s.heap b c):∃o,s.heap.get? b=some o:=by
 cases c with
 |obj C d=>exact⟨_,x⟩
 |dat o l=>obtain⟨_,⟨o,_,_,e,_⟩,_⟩:=x;exact⟨o,e⟩
 |lst t a=>obtain⟨f,⟨o,e⟩,q⟩:=x;exact⟨_,e⟩
 |tup a=>obtain⟨f,⟨o,e,r⟩,q⟩:=x;exact⟨o,e⟩
 |sd t l=>obtain⟨_,⟨o,_,_,e,_⟩,_⟩:=x;exact⟨o,e⟩
 |td t l=>obtain⟨_,⟨o,_,e,_⟩,_⟩:=x;exact⟨o,e⟩
 |yT l=>obtain⟨_,⟨o,_,_,e,_⟩,_⟩:=x;exact⟨o,e⟩
 |qG k v=>obtain⟨o,h,e,r⟩:=x;exact⟨o,e⟩
 |fn c i=>obtain⟨fd,d,j,m,g,r⟩:=x;exact⟨_,g⟩
 |exc C d=>obtain⟨o,a,e,r⟩:=x;exact⟨o,e⟩
 |cB C=>obtain⟨o,a,e,r⟩:=x;exact⟨o,e⟩
 |Ju=>obtain⟨o,a,e,r⟩:=x;exact⟨o,e⟩
 |tab l=>exact⟨_,x.1⟩
theorem Rep.updG{tk:Nat}(a:Rep Z κ s H)(d:κ b=.some c₀)(j:∀vs,c₀≠.tup vs)(f:qW0 b s.heap h')(i:yQ Z (wM κ b c) h' b c)(h:View (wM κ b c) H')(g:c₀=.Ju->c=.Ju):
  Rep Z (wM κ b c) {s with heap:=h',toks:=tk} H'∧yL κ s.heap (wM κ b c) h':=by
 have lo:=(a.cells b c₀ d).2;refine⟨⟨λx o e=>?_,λx l e=>?_,h,a.gens,a.os⟩,λx o e k=>?_⟩
 ·exact f x o (λz=>uZ (lo.1.symm.trans (z▸e))) (a.old x o e)
 ·by_cases q:x=b
  ·subst q;rw[zG] at e;cases e;exact⟨i,lo⟩
  ·rw[zM q] at e;refine qK (a.cells x l e) λp r=>?_;exact⟨p.step (λx o n e=>f x o n e) (λx n=>zM n) (.inl (qZ (c₀) d j)) (λe=>by rw[d] at e;cases e;exact qX (g rfl) (zG ..)) q,r⟩
 ·have q:x≠b:=λz=>uZ (k.symm.trans (z▸d));exact⟨f x o q e,qX (zM q) k⟩
theorem Rep.upd{tk:Nat}(f:Rep Z κ s H)(a:κ b=.some c₀)(p:(Nat.beq c₀.ctorIdx 3||Nat.beq c₀.ctorIdx 11)=false)(d:qW0 b s.heap h')(g:yQ Z (wM κ b c) h' b c)(e:View (wM κ b c) H'):
  Rep Z (wM κ b c) {s with heap:=h',toks:=tk} H'∧yL κ s.heap (wM κ b c) h':=f.updG a (λ_ q=>by subst q;cases p) d g e λq=>by subst q;cases p
theorem Rep.free(O:Z.Ok)(a:Rep Z κ s H)(f:s.heap.objs.size≤b):s.heap.get? b=none∧κ b=none∧Z.h₀.get? b=none∧3<b:=by
 have d:=qW8 f;refine⟨d,?_,?_,?_⟩
 ·cases q:κ b with
  |none=>rfl
  |some c=>obtain⟨o,e⟩:=(a.cells b c q).1.some;rw[d] at e;cases e
 ·cases q:Z.h₀.get? b with
  |none=>rfl
  |some o=>have:=a.old b o q;rw[d] at this;cases this
 ·refine jP O.G λo h i e _=>?_;have g:=qC9 (a.old _ _ e);exact Nat.lt_of_lt_of_le g f
theorem Rep.new{tk:Nat}(O:Z.Ok)(a:Rep Z κ s H)(g:s.heap.objs.size≤b)(d:∀x o,s.heap.get? x=some o->h'.get? x=some o)(i:yQ Z (wM κ b c) h' b c)(h:View (wM κ b c) H'):
  Rep Z (wM κ b c) {s with heap:=h',toks:=tk} H'∧yL κ s.heap (wM κ b c) h':=by
 refine jL (a.free O g) λf j l m=>?_;refine⟨⟨λx o e=>d x o (a.old x o e),λx t e=>?_,h,a.gens,a.os⟩,λx o e k=>?_⟩
 ·by_cases q:x=b
  ·subst q;rw[zG] at e;cases e;exact⟨i,l,m⟩
  ·rw[zM q] at e;refine qK (a.cells x t e) λp r=>?_;exact⟨p.step (λx o _ e=>d x o e) (λx n=>zM n) (.inr (.inl f)) (λe=>by rw[j] at e;cases e) q,r⟩
 ·have q:x≠b:=λz=>uZ (f.symm.trans (z▸e));exact⟨d x o e,qX (zM q) k⟩
theorem Rep.fresh(O:Z.Ok)(c:Rep Z κ s H)(a:s.heap.objs.size≤b):κ b=none:=(c.free O a).2.1
theorem Rep.more(a:Rep Z κ s H)(c:∀x o,s.heap.get? x=some o->h'.get? x=some o):Rep Z κ {s with heap:=h',toks:=tk} H∧yL κ s.heap κ h':=by
 refine⟨⟨λx o e=>c x o (a.old x o e),λx g e=>?_,a.view,a.gens,a.os⟩,λx o e k=>⟨c x o e,k⟩⟩;obtain⟨p,r⟩:=a.cells x g e;have d:s.heap.get? s.heap.objs.size=none:=qW8 (Nat.le_refl _);exact⟨p.step (b:=s.heap.objs.size) (λx o _ e=>c x o e) (λx n=>rfl) (.inr (.inl d)) (λe=>e) (by rintro rfl;obtain⟨o,f⟩:=p.some;rw[d] at f;cases f),r⟩
theorem Rep.Kr{L:Addr}{tk:Nat}(a:Rep Z κ s H)(d:κ L=none)(g:Z.h₀.get? L=none)(f:∀q,¬s.heap.CodeRec (.ref L) q)(c:qW0 L s.heap h'):
  Rep Z κ {s with heap:=h',toks:=tk} H∧Er L κ s.heap κ h':=by
 refine⟨⟨λx o e=>?_,λx h e=>?_,a.view,a.gens,a.os⟩,λx o q e k=>⟨c x o q e,k⟩⟩
 ·exact c x o (λz=>uZ (g.symm.trans (z▸e))) (a.old x o e)
 ·refine qK (a.cells x h e) λp r=>?_;exact⟨p.step (b:=L) (λx o n e=>c x o n e) (λx n=>rfl) (.inr (.inr ⟨d,f⟩)) (λe=>e) (λz=>uZ (d.symm.trans (z▸e))),r⟩
theorem uS{h:Heap}(f:∃o a ep,h.get? L=some o∧o.data=.dict a ep):∀q,¬h.CodeRec (.ref L) q:=by
 intro q g;refine Ws g λc k l t e b d=>jP f λo a ep i j=>?_;cases e;rw[i] at b;cases b;rw[j] at d;cases d.1
theorem Rep.Fc{L:Addr}{tk:Nat}(f:Rep Z κ s H)(d:κ L=none)(b:Z.h₀.get? L=none)(a:∃o c ep,s.heap.get? L=some o∧o.data=.dict c ep)(e:qW0 L s.heap h'):
  Rep Z κ {s with heap:=h',toks:=tk} H∧Er L κ s.heap κ h':=f.Kr d b (uS a) e
theorem Rep.toks(a:Rep Z κ s H):Rep Z κ {s with toks:=tk} H:=⟨a.old,a.cells,a.view,a.gens,a.os⟩
end
noncomputable def qJ9(l:List (Nat×AV))(k:Nat)(v:AV):List (Nat×AV):=if l.any (λp=>p.1=k) then l.map (λp=>if p.1=k then(p.1,v) else p) else l++[(k,v)]
theorem yA(p:Nat×AV)(l:List (Nat×AV))(k:Nat):zE (p::l) k=if k=p.1 then some p.2 else zE l k:=by
 unfold zE;rw[qQ1];by_cases h:k=p.1
 ·simp[h]
 ·have:(k==p.1)=false:=by simpa using h
  exact qX this (qX (D9 h) rfl)
theorem kE(l:List (Nat×AV))(k:Nat)(v:AV):zE (qJ9 l k v)=up (zE l) k v:=by
 funext x
 unfold qJ9;split
 ·rename_i h
  induction l with
  |nil=>simp at h
  |cons p l c=>
   rw[B6,yA];by_cases b:p.1=k
   ·rw[A3 b];dsimp only;by_cases a:x=p.1
    ·rw[A3 a];unfold up;rw[A3 (a.trans b)]
    ·refine qX (D9 a) ?_;unfold up;rw[D9 (by rw[<-b];exact a),yA,D9 a];by_cases d:(l.any λp=>decide (p.1=k))=true
     ·have:=c d;rw[this];unfold up;rw[D9 (by rw[<-b];exact a)]
     ·have e:l.map (λp=>if p.1=k then(p.1,v) else p)=l:=by
       conv=>rhs;rw[<-List.map_id l]
       apply D6
       intro q f;have:¬q.1=k:=λz=>d (qK3.mpr (qZ q f (by simp[z])));simp[this]
      exact qX (e) rfl
   ·refine qX (D9 b) ?_;have d:(l.any λp=>decide (p.1=k))=true:=by simpa[b] using h
    refine qX (c d) ?_;unfold up;by_cases a:x=p.1
    ·rw[A3 a,D9 (by rw[a];exact b),yA,A3 a]
    ·rw[D9 a,yA,D9 a]
 ·rename_i h
  induction l with
  |nil=>rw[List.nil_append,yA];rfl
  |cons p l c=>
   simp only[qV4,Bool.or_eq_true,not_or,decide_eq_true_eq] at h;rw[List.cons_append,yA,c h.2];unfold up;by_cases a:x=p.1
   ·rw[A3 a,D9 (by rw[a];exact h.1),yA,A3 a]
   ·rw[D9 a,yA,D9 a]
theorem qO1(h:zK pK kvs l)(b:k<NN):(kvs.any λa=>decide (a.1=nm k))=l.any λp=>decide (p.1=k):=by
 induction h with
 |nil=>rfl
 |@cons a p _ _ f _ c=>
  refine qX (qV4) (qX (qV4) (qX (c) ?_));congr 1
  refine qX (f.key) ?_;by_cases q:nm p.1=nm k
  ·simp[yI f.lt b q]
  ·have:¬p.1=k:=λe=>q (cgA nm e);simp[q,this]
theorem zK.map(k:∀a b,R a b->R' (f a) (g b))(h:zK R l l'):zK R' (l.map f) (l'.map g):=by
 induction h with
 |nil=>exact .nil
 |cons a _ c=>exact .cons (k _ _ a) c
theorem zK.append(h:zK R l l')(y:zK R l₂ l₂'):zK R (l++l₂) (l'++l₂'):=by
 induction h with
 |nil=>exact y
 |cons a _ b=>exact .cons a b
theorem zK.length(h:zK R l l'):l.length=l'.length:=by
 induction h with
 |nil=>rfl
 |cons _ _ a=>exact cgA Nat.succ a
theorem zK.get{α β:Type}{R:α->β->Prop}{l:List α}{c:List β}(h:zK R l c):∀{i:Nat}{b:β},c[i]?=some b->∃a,l[i]?=some a∧R a b:=by
 induction h with
 |nil=>exactλe=>uZ e
 |cons a _ d=>
  intro i b e;cases i with
  |zero=>exact qZ _ rfl (B5 e▸a)
  |succ i=>exact d e
theorem uT(h:zK pK kvs l)(b:k<NN)(c:Is v a):zK pK (qH0 kvs (nm k) v) (qJ9 l k a):=by
 unfold qH0 qJ9;refine qX (qO1 h b) ?_;split
 ·refine h.map λd p f=>?_;refine qX (f.key) ?_;by_cases q:p.1=k
  ·exact qX (A3 (qX q rfl)) (qX (A3 q) (⟨f.lt,rfl,c⟩))
  ·exact qX (D9 (λe=>q (yI f.lt b e))) (qX (D9 q) (f))
 ·exact h.append (.cons ⟨b,rfl,c⟩ .nil)
theorem vZ(h:zK pK kvs l)(b:k<NN):Fk (qU3 kvs (nm k)) (zE l k):=by
 induction h with
 |nil=>exact .none
 |@cons c p _ _ f r a=>
  rw[yA];unfold qU3 at a⊢;refine qX (qW7) (qX (f.key) ?_);by_cases q:p.1=k
  ·refine qX (A3 q.symm) ?_;simp only[q,decide_true];exact .some f.val
  ·refine qX (D9 (λe=>q e.symm)) ?_;have:¬nm p.1=nm k:=λe=>q (yI f.lt b e);simp only[this,decide_false];exact a
theorem Fd(h:zK pK kvs l)(b:k<NN)(c:zE l k=some a):∃v,qU3 kvs (nm k)=some v∧Is v a:=
 match qU3 kvs (nm k),c▸vZ h b with|_,.some i=>qZ _ rfl i
theorem rA(h:zK pK kvs l)(b:(kvs.map (·.1)).Nodup):(l.map (·.1)).Nodup:=by
 induction h with
 |nil=>exact qX5
 |@cons g p _ _ f r c=>
  rw[B6,O5] at b⊢;refine⟨λa=>b.1 ?_,c b.2⟩;have:∀{kvs:List (Str×Value)}{l:List (Nat×AV)},zK pK kvs l->p.1∈l.map (·.1)->nm p.1∈kvs.map (·.1):=by
   intro kvs l h;induction h with
   |nil=>intro a;cases a
   |cons d _ c=>
    intro a;rw[B6] at a⊢;refine qQ0 (E3.mp a) (λe=>?_) λa=>?_
    ·exact qX (e) (qX (C6 (d.key)) (T3))
    ·exact S9 _ (c a)
  refine qX (f.key) ?_;exact this r a
theorem oW{l:List (Nat×AV)}(b:(l.map (·.1)).Nodup)(a:∀p∈l,p.1<NN):l.length≤NN:=by
 have:=List.Nodup.length_le_of_subset (l₂:=B4 NN) b λx c=>by
  refine qY (T8.mp c) λp d e=>?_;subst e;exact qX4.mpr (a p d)
 simpa using this
theorem zJ8(h:zK pK kvs l):∀p∈l,p.1<NN:=by
 induction h with
 |nil=>intro p c;cases c
 |cons f _ d=>
  intro q a;refine qQ0 (E3.mp a) (λb=>?_) λa=>?_
  ·subst b;exact f.lt
  ·exact d q a
theorem lZ{kvs:List (Str×Value)}(h:zK pK kvs l)(a:(kvs.map (·.1)).Nodup):kvs.length≤NN:=by
 exact qX (h.length) (oW (rA h a) (zJ8 h))
section
open PySem.Calls
noncomputable def sE:Str->Str->Bool:=Fast.sEq
theorem Eb:sE a b=true↔a=b:=Fast.sEq_iff
theorem Ec(a b:Str):sE a b=(a==b):=by
 rw[Bool.eq_iff_iff,Eb,beq_iff_eq]
noncomputable def Fe(v:Value)(n:Str):Bool:=match v with
 |.str s _=>sE s n
 |_=>false
theorem Ti(v:Value)(n:Str):Fe v n=v.isStr n:=by
 cases v<;>first|rfl|exact Ec _ _
noncomputable def lkQ:List (Str×NameKind)->Str->Option NameKind
 |[],_=>none
 |(y,v)::r,x=>match sE x y with
  |true=>some v
  |false=>lkQ r x
theorem Ed:∀(l:List (Str×NameKind))(x:Str),lkQ l x=l.lookup x
 |[],_=>rfl
 |(y,v)::r,x=>by
  show(match sE x y with|true=>some v|false=>lkQ r x)=_;rw[qQ1,Ec,Ed r x];cases x==y<;>rfl
noncomputable def M4(K:Frag)(ns:Addr)(name:Str):Option (Option Value):=match K.lookup ns with
 |some ⟨_,_,.dict a _,_⟩=>(match a.toList.find? (λe=>Fe e.key name) with
   |some e=>some (some e.val)
   |none=>if a.toList.any (·.refKey) then none else some none)
 |_=>none
theorem Fa:M4=nsIn:=by
 funext K ns name
 have h:(λe:qA9=>Fe e.key name)=(λe=>e.key.isStr name):=by funext e;exact Ti _ _
 unfold M4 nsIn;refine qX (h) ?_;cases K.lookup ns with
 |none=>rfl
 |some o=>
  obtain⟨c,d,a,f⟩:=o;cases a with
  |dict b n=>dsimp only;cases b.toList.find? (λe=>e.key.isStr name)<;>rfl
  |_=>rfl
noncomputable def wZ1(b:String->Str->Option Value)(K:Frag)(name:Str):Value->Option (Option Value)
 |.type n=>some (b n name)
 |.ref a=>(match K.lookup a with
   |some ⟨_,_,.cls c,_⟩=>M4 K c.ns name
   |_=>none)
 |_=>some none
noncomputable def oX(b:String->Str->Option Value)(K:Frag)(name:Str):List Value->Option (Option Value)
 |[]=>some none
 |c::r=>match wZ1 b K name c with
  |some (some v)=>some (some v)
  |some none=>oX b K name r
  |none=>none
noncomputable def qN9(K:Frag)(a:Addr)(name:Str):Option (Option Value):=match K.lookup a with
 |some ⟨_,_,.cls b,_⟩=>oX qT9 K name b.mro
 |_=>none
theorem zJ7(K:Frag)(name:Str)(c:Value):wZ1 qM2 K name c=ownIn K name c:=by
 cases c with
 |ref a=>
  show(match K.lookup a with|some ⟨_,_,.cls cd,_⟩=>M4 K cd.ns name|_=>none)=(match K.lookup a with|some ⟨_,_,.cls cd,_⟩=>nsIn K cd.ns name|_=>none);exact qX (Fa) rfl
 |_=>rfl
theorem Xb(K:Frag)(name:Str):∀l,oX qM2 K name l=alongIn K name l
 |[]=>rfl
 |c::r=>by
  show(match wZ1 qM2 K name c with|some (some v)=>some (some v)|some none=>oX qM2 K name r|none=>none)=(match ownIn K name c with|some (some v)=>some (some v)|some none=>alongIn K name r|none=>none);rw[zJ7,Xb K name r]
theorem qG6(K:Frag)(a:Addr)(name:Str):qN9 K a name=qP1 K (.ref a) name:=by
 show(match K.lookup a with|some ⟨_,_,.cls e,_⟩=>oX qT9 K name e.mro|_=>none)=(match K.lookup a with|some ⟨_,_,.cls e,_⟩=>alongIn K name e.mro|_=>none);refine qX (C6 (Fast.te923211914312576958)) (qX (builtinOwn_eq_fast) ?_);cases K.lookup a with
 |none=>rfl
 |some o=>
  obtain⟨c,d,b,f⟩:=o;cases b with
  |cls e=>exact Xb K name e.mro
  |_=>rfl
noncomputable def qT6(K:Frag)(C:Addr):Bool:=(qN9 K C "__getattribute__"==some (some (.builtin "object.__getattribute__")))&&(qN9 K C "__getattr__"==some none)
theorem qT1(K:Frag)(C:Addr)(x:Str):qT6 K C=zH3 K C x:=by
 unfold qT6 zH3;rw[qG6,qG6]
end
theorem qO(h:(a&&b)=true):a=true∧b=true:=(Bool.and_eq_true ..).mp h
theorem Jp(h:sE a b=true):a=b:=Eb.mp h
theorem oY(h:Nat.blt a b=true):a<b:=Nat.blt_eq.mp h
noncomputable def kQ(a:List (Str×NameKind))(x:Str)(kd:NameKind):Bool:=lkQ a x==some kd
theorem Jg(h:kQ ks x kd=true):ks.lookup x=some kd:=by rw[<-Ed];exact beq_iff_eq.mp h
noncomputable def jC(e:Expr):Nat:=@Expr.casesOn (λ_=>Nat) e (λ_ _ _=>0) (λ_ _ _=>1) (λ_ _ _ _=>2) (λ_ _ _=>3) (λ_ _ _ _=>4) (λ_ _ _ _=>5) (λ_ _ _=>6) (λ_ _ _=>7) (λ_ _ _ _=>8) (λ_ _ _ _=>9) (λ_ _ _ _ _=>10) (λ_ _ _ _=>11) (λ_ _=>12) (λ_ _=>13) (λ_ _=>14) (λ_ _ _ _=>15) (λ_ _ _ _=>16) (λ_ _ _ _=>17) (λ_ _=>18) (λ_ _ _=>19) (λ_ _ _=>20) (λ_ _ _=>21) (λ_ _=>22) (λ_ _=>23) (λ_ _=>24) (λ_ _ _=>25) (λ_ _ _ _=>26)
noncomputable abbrev wJ{δ α β:Type}(d:δ):α->β->δ:=λ_ _=>d
noncomputable abbrev zI{δ α β γ:Type}(d:δ):α->β->γ->δ:=λ_ _ _=>d
noncomputable abbrev wX{δ α β γ ε:Type}(d:δ):α->β->γ->ε->δ:=λ_ _ _ _=>d
noncomputable abbrev lS{δ α β γ ε ζ:Type}(d:δ):α->β->γ->ε->ζ->δ:=λ_ _ _ _ _=>d
noncomputable def xp0(d:BoolOp)(e:Expr):BoolOp:=@Expr.casesOn (λ_=>BoolOp) e (λx _ _=>x) (zI d) (wX d) (zI d) (wX d) (wX d) (zI d) (zI d) (wX d) (wX d) (lS d) (wX d) (wJ d) (wJ d) (wJ d) (wX d) (wX d) (wX d) (wJ d) (zI d) (zI d) (zI d) (wJ d) (wJ d) (wJ d) (zI d) (wX d)
noncomputable def Kl(d:List Expr)(e:Expr):List Expr:=@Expr.casesOn (λ_=>List Expr) e (λ_ x _=>x) (zI d) (wX d) (zI d) (wX d) (wX d) (λ_ x _=>x) (zI d) (wX d) (wX d) (lS d) (wX d) (wJ d) (wJ d) (wJ d) (λ_ _ x _=>x) (λ_ x _ _=>x) (wX d) (wJ d) (zI d) (zI d) (zI d) (wJ d) (wJ d) (λx _=>x) (λx _ _=>x) (wX d)
noncomputable def lT(d:Pos)(e:Expr):Pos:=@Expr.casesOn (λ_=>Pos) e (λ_ _ x=>x) (zI d) (λ_ _ _ x=>x) (λ_ _ x=>x) (wX d) (λ_ _ _ x=>x) (λ_ _ x=>x) (zI d) (λ_ _ _ x=>x) (wX d) (λ_ _ _ _ x=>x) (wX d) (wJ d) (wJ d) (wJ d) (λ_ _ _ x=>x) (λ_ _ _ x=>x) (wX d) (wJ d) (λ_ _ x=>x) (λ_ _ x=>x) (λ_ _ x=>x) (wJ d) (λ_ x=>x) (λ_ x=>x) (λ_ _ x=>x) (wX d)
noncomputable def cI(d:Expr)(e:Expr):Expr:=@Expr.casesOn (λ_=>Expr) e (zI d) (zI d) (λx _ _ _=>x) (λ_ x _=>x) (wX d) (λx _ _ _=>x) (zI d) (zI d) (λx _ _ _=>x) (wX d) (λx _ _ _ _=>x) (wX d) (wJ d) (wJ d) (wJ d) (λx _ _ _=>x) (λx _ _ _=>x) (wX d) (wJ d) (zI d) (λx _ _=>x) (λx _ _=>x) (wJ d) (wJ d) (wJ d) (zI d) (wX d)
noncomputable def xp4(d:Operator)(e:Expr):Operator:=@Expr.casesOn (λ_=>Operator) e (zI d) (zI d) (λ_ x _ _=>x) (zI d) (wX d) (wX d) (zI d) (zI d) (wX d) (wX d) (lS d) (wX d) (wJ d) (wJ d) (wJ d) (wX d) (wX d) (wX d) (wJ d) (zI d) (zI d) (zI d) (wJ d) (wJ d) (wJ d) (zI d) (wX d)
noncomputable def Ej(d:Expr)(e:Expr):Expr:=@Expr.casesOn (λ_=>Expr) e (zI d) (zI d) (λ_ _ x _=>x) (zI d) (wX d) (λ_ x _ _=>x) (zI d) (zI d) (wX d) (wX d) (λ_ x _ _ _=>x) (wX d) (wJ d) (wJ d) (wJ d) (wX d) (wX d) (wX d) (wJ d) (zI d) (zI d) (λ_ x _=>x) (wJ d) (wJ d) (wJ d) (zI d) (wX d)
noncomputable def xp6(d:UnaryOp)(e:Expr):UnaryOp:=@Expr.casesOn (λ_=>UnaryOp) e (zI d) (zI d) (wX d) (λx _ _=>x) (wX d) (wX d) (zI d) (zI d) (wX d) (wX d) (lS d) (wX d) (wJ d) (wJ d) (wJ d) (wX d) (wX d) (wX d) (wJ d) (zI d) (zI d) (zI d) (wJ d) (wJ d) (wJ d) (zI d) (wX d)
noncomputable def xp7(d:Expr)(e:Expr):Expr:=@Expr.casesOn (λ_=>Expr) e (zI d) (zI d) (wX d) (zI d) (wX d) (λ_ _ x _=>x) (zI d) (zI d) (wX d) (wX d) (lS d) (wX d) (wJ d) (wJ d) (wJ d) (wX d) (wX d) (wX d) (wJ d) (zI d) (zI d) (zI d) (wJ d) (wJ d) (wJ d) (zI d) (wX d)
noncomputable def xp8(d:List (Option Expr))(e:Expr):List (Option Expr):=@Expr.casesOn (λ_=>List (Option Expr)) e (zI d) (zI d) (wX d) (zI d) (wX d) (wX d) (λx _ _=>x) (zI d) (wX d) (wX d) (lS d) (wX d) (wJ d) (wJ d) (wJ d) (wX d) (wX d) (wX d) (wJ d) (zI d) (zI d) (zI d) (wJ d) (wJ d) (wJ d) (zI d) (wX d)
noncomputable def M6(d:List Comprehension)(e:Expr):List Comprehension:=@Expr.casesOn (λ_=>List Comprehension) e (zI d) (zI d) (wX d) (zI d) (wX d) (wX d) (zI d) (zI d) (λ_ x _ _=>x) (wX d) (λ_ _ x _ _=>x) (wX d) (wJ d) (wJ d) (wJ d) (wX d) (wX d) (wX d) (wJ d) (zI d) (zI d) (zI d) (wJ d) (wJ d) (wJ d) (zI d) (wX d)
noncomputable def To(d:Scope)(e:Expr):Scope:=@Expr.casesOn (λ_=>Scope) e (zI d) (zI d) (wX d) (zI d) (wX d) (wX d) (zI d) (zI d) (λ_ _ x _=>x) (wX d) (λ_ _ _ x _=>x) (wX d) (wJ d) (wJ d) (wJ d) (wX d) (wX d) (wX d) (wJ d) (zI d) (zI d) (zI d) (wJ d) (wJ d) (wJ d) (zI d) (wX d)
noncomputable def zT8(d:List CmpOp)(e:Expr):List CmpOp:=@Expr.casesOn (λ_=>List CmpOp) e (zI d) (zI d) (wX d) (zI d) (wX d) (wX d) (zI d) (zI d) (wX d) (wX d) (lS d) (wX d) (wJ d) (wJ d) (wJ d) (λ_ x _ _=>x) (wX d) (wX d) (wJ d) (zI d) (zI d) (zI d) (wJ d) (wJ d) (wJ d) (zI d) (wX d)
noncomputable def wX5(d:List Keyword)(e:Expr):List Keyword:=@Expr.casesOn (λ_=>List Keyword) e (zI d) (zI d) (wX d) (zI d) (wX d) (wX d) (zI d) (zI d) (wX d) (wX d) (lS d) (wX d) (wJ d) (wJ d) (wJ d) (wX d) (λ_ _ x _=>x) (wX d) (wJ d) (zI d) (zI d) (zI d) (wJ d) (wJ d) (wJ d) (zI d) (wX d)
noncomputable def wZ7(d:Const)(e:Expr):Const:=@Expr.casesOn (λ_=>Const) e (zI d) (zI d) (wX d) (zI d) (wX d) (wX d) (zI d) (zI d) (wX d) (wX d) (lS d) (wX d) (wJ d) (wJ d) (wJ d) (wX d) (wX d) (wX d) (wJ d) (λx _ _=>x) (zI d) (zI d) (wJ d) (wJ d) (wJ d) (zI d) (wX d)
noncomputable def Bq(d:Nat)(e:Expr):Nat:=@Expr.casesOn (λ_=>Nat) e (zI d) (zI d) (wX d) (zI d) (wX d) (wX d) (zI d) (zI d) (wX d) (wX d) (lS d) (wX d) (wJ d) (wJ d) (wJ d) (wX d) (wX d) (wX d) (wJ d) (λ_ x _=>x) (zI d) (zI d) (wJ d) (wJ d) (wJ d) (λ_ x _=>x) (wX d)
noncomputable def Bz(d:Str)(e:Expr):Str:=@Expr.casesOn (λ_=>Str) e (zI d) (zI d) (wX d) (zI d) (wX d) (wX d) (zI d) (zI d) (wX d) (wX d) (lS d) (wX d) (wJ d) (wJ d) (wJ d) (wX d) (wX d) (wX d) (wJ d) (zI d) (λ_ x _=>x) (zI d) (wJ d) (λx _=>x) (wJ d) (zI d) (wX d)
noncomputable def nB(t:Nat)(e:Expr):Expr:=cond (Nat.beq t 0) (.BoolOp (xp0 (.And) e) (Kl ([]) e) (lT (⟨0,0,0,0⟩) e)) (cond (Nat.beq t 2) (.BinOp (cI (.Tuple [] 0 ⟨0,0,0,0⟩) e) (xp4 (.Add) e) (Ej (.Tuple [] 0 ⟨0,0,0,0⟩) e) (lT (⟨0,0,0,0⟩) e)) (cond (Nat.beq t 3) (.UnaryOp (xp6 (.Not) e) (cI (.Tuple [] 0 ⟨0,0,0,0⟩) e) (lT (⟨0,0,0,0⟩) e)) (cond (Nat.beq t 5) (.IfExp (cI (.Tuple [] 0 ⟨0,0,0,0⟩) e) (Ej (.Tuple [] 0 ⟨0,0,0,0⟩) e) (xp7 (.Tuple [] 0 ⟨0,0,0,0⟩) e) (lT (⟨0,0,0,0⟩) e)) (cond (Nat.beq t 6) (.Dict (xp8 ([]) e) (Kl ([]) e) (lT (⟨0,0,0,0⟩) e)) (cond (Nat.beq t 8) (.ListComp (cI (.Tuple [] 0 ⟨0,0,0,0⟩) e) (M6 ([]) e) (To (⟨.function,[],false,false,[]⟩) e) (lT (⟨0,0,0,0⟩) e)) (cond (Nat.beq t 10) (.DictComp (cI (.Tuple [] 0 ⟨0,0,0,0⟩) e) (Ej (.Tuple [] 0 ⟨0,0,0,0⟩) e) (M6 ([]) e) (To (⟨.function,[],false,false,[]⟩) e) (lT (⟨0,0,0,0⟩) e)) (cond (Nat.beq t 15) (.Compare (cI (.Tuple [] 0 ⟨0,0,0,0⟩) e) (zT8 ([]) e) (Kl ([]) e) (lT (⟨0,0,0,0⟩) e)) (cond (Nat.beq t 16) (.Call (cI (.Tuple [] 0 ⟨0,0,0,0⟩) e) (Kl ([]) e) (wX5 ([]) e) (lT (⟨0,0,0,0⟩) e)) (cond (Nat.beq t 19) (.Constant (wZ7 (.none) e) (Bq (0) e) (lT (⟨0,0,0,0⟩) e)) (cond (Nat.beq t 20) (.Attribute (cI (.Tuple [] 0 ⟨0,0,0,0⟩) e) (Bz (⟨#[]⟩) e) (lT (⟨0,0,0,0⟩) e)) (cond (Nat.beq t 21) (.Subscript (cI (.Tuple [] 0 ⟨0,0,0,0⟩) e) (Ej (.Tuple [] 0 ⟨0,0,0,0⟩) e) (lT (⟨0,0,0,0⟩) e)) (cond (Nat.beq t 23) (.Name (Bz (⟨#[]⟩) e) (lT (⟨0,0,0,0⟩) e)) (cond (Nat.beq t 24) (.List (Kl ([]) e) (lT (⟨0,0,0,0⟩) e)) (cond (Nat.beq t 25) (.Tuple (Kl ([]) e) (Bq (0) e) (lT (⟨0,0,0,0⟩) e)) (e)))))))))))))))
theorem vW(e:Expr):nB (jC e) e=e:=by cases e<;>rfl
theorem wV7(h:jC e=0):e=.BoolOp (xp0 (.And) e) (Kl ([]) e) (lT (⟨0,0,0,0⟩) e):=(h▸vW e:nB 0 e=e).symm
@[irreducible] noncomputable def lD(e:Expr)(f:BoolOp->(List Expr)->Pos->Bool):Bool:=Nat.beq (jC e) 0&&f (xp0 (.And) e) (Kl ([]) e) (lT (⟨0,0,0,0⟩) e)
theorem Bw(h:lD e f=true):∃a c b,e=.BoolOp a c b∧f a c b=true:=by
 delta lD at h
 exact jN _ _ _ (wV7 (Nat.eq_of_beq_eq_true (qO h).1)) ((qO h).2)
theorem wL5(h:jC e=2):e=.BinOp (cI (.Tuple [] 0 ⟨0,0,0,0⟩) e) (xp4 (.Add) e) (Ej (.Tuple [] 0 ⟨0,0,0,0⟩) e) (lT (⟨0,0,0,0⟩) e):=(h▸vW e:nB 2 e=e).symm
@[irreducible] noncomputable def Xc(e:Expr)(f:Expr->Operator->Expr->Pos->Bool):Bool:=Nat.beq (jC e) 2&&f (cI (.Tuple [] 0 ⟨0,0,0,0⟩) e) (xp4 (.Add) e) (Ej (.Tuple [] 0 ⟨0,0,0,0⟩) e) (lT (⟨0,0,0,0⟩) e)
theorem zZ5(h:Xc e f=true):∃a c d b,e=.BinOp a c d b∧f a c d b=true:=by
 delta Xc at h
 exact⟨_,_,_,_,wL5 (Nat.eq_of_beq_eq_true (qO h).1),(qO h).2⟩
theorem wL1(h:jC e=3):e=.UnaryOp (xp6 (.Not) e) (cI (.Tuple [] 0 ⟨0,0,0,0⟩) e) (lT (⟨0,0,0,0⟩) e):=(h▸vW e:nB 3 e=e).symm
@[irreducible] noncomputable def eK(e:Expr)(f:UnaryOp->Expr->Pos->Bool):Bool:=Nat.beq (jC e) 3&&f (xp6 (.Not) e) (cI (.Tuple [] 0 ⟨0,0,0,0⟩) e) (lT (⟨0,0,0,0⟩) e)
theorem Ng(h:eK e f=true):∃a c b,e=.UnaryOp a c b∧f a c b=true:=by
 delta eK at h
 exact jN _ _ _ (wL1 (Nat.eq_of_beq_eq_true (qO h).1)) ((qO h).2)
theorem wV2(h:jC e=5):e=.IfExp (cI (.Tuple [] 0 ⟨0,0,0,0⟩) e) (Ej (.Tuple [] 0 ⟨0,0,0,0⟩) e) (xp7 (.Tuple [] 0 ⟨0,0,0,0⟩) e) (lT (⟨0,0,0,0⟩) e):=(h▸vW e:nB 5 e=e).symm
@[irreducible] noncomputable def Nf(e:Expr)(f:Expr->Expr->Expr->Pos->Bool):Bool:=Nat.beq (jC e) 5&&f (cI (.Tuple [] 0 ⟨0,0,0,0⟩) e) (Ej (.Tuple [] 0 ⟨0,0,0,0⟩) e) (xp7 (.Tuple [] 0 ⟨0,0,0,0⟩) e) (lT (⟨0,0,0,0⟩) e)
theorem zG0(h:Nf e f=true):∃a c d b,e=.IfExp a c d b∧f a c d b=true:=by
 delta Nf at h
 exact⟨_,_,_,_,wV2 (Nat.eq_of_beq_eq_true (qO h).1),(qO h).2⟩
theorem wL9(h:jC e=6):e=.Dict (xp8 ([]) e) (Kl ([]) e) (lT (⟨0,0,0,0⟩) e):=(h▸vW e:nB 6 e=e).symm
@[irreducible] noncomputable def cO(e:Expr)(f:(List (Option Expr))->(List Expr)->Pos->Bool):Bool:=Nat.beq (jC e) 6&&f (xp8 ([]) e) (Kl ([]) e) (lT (⟨0,0,0,0⟩) e)
theorem Ee(h:cO e f=true):∃a c b,e=.Dict a c b∧f a c b=true:=by
 delta cO at h
 exact jN _ _ _ (wL9 (Nat.eq_of_beq_eq_true (qO h).1)) ((qO h).2)
theorem wP7(h:jC e=8):e=.ListComp (cI (.Tuple [] 0 ⟨0,0,0,0⟩) e) (M6 ([]) e) (To (⟨.function,[],false,false,[]⟩) e) (lT (⟨0,0,0,0⟩) e):=(h▸vW e:nB 8 e=e).symm
@[irreducible] noncomputable def Bx(e:Expr)(f:Expr->(List Comprehension)->Scope->Pos->Bool):Bool:=Nat.beq (jC e) 8&&f (cI (.Tuple [] 0 ⟨0,0,0,0⟩) e) (M6 ([]) e) (To (⟨.function,[],false,false,[]⟩) e) (lT (⟨0,0,0,0⟩) e)
theorem zC1(h:Bx e f=true):∃a c d b,e=.ListComp a c d b∧f a c d b=true:=by
 delta Bx at h
 exact⟨_,_,_,_,wP7 (Nat.eq_of_beq_eq_true (qO h).1),(qO h).2⟩
theorem wX3(h:jC e=10):e=.DictComp (cI (.Tuple [] 0 ⟨0,0,0,0⟩) e) (Ej (.Tuple [] 0 ⟨0,0,0,0⟩) e) (M6 ([]) e) (To (⟨.function,[],false,false,[]⟩) e) (lT (⟨0,0,0,0⟩) e):=(h▸vW e:nB 10 e=e).symm
@[irreducible] noncomputable def Ea(e:Expr)(f:Expr->Expr->(List Comprehension)->Scope->Pos->Bool):Bool:=Nat.beq (jC e) 10&&f (cI (.Tuple [] 0 ⟨0,0,0,0⟩) e) (Ej (.Tuple [] 0 ⟨0,0,0,0⟩) e) (M6 ([]) e) (To (⟨.function,[],false,false,[]⟩) e) (lT (⟨0,0,0,0⟩) e)
theorem wX2(h:Ea e f=true):∃a c g b d,e=.DictComp a c g b d∧f a c g b d=true:=by
 delta Ea at h
 exact⟨_,_,_,_,_,wX3 (Nat.eq_of_beq_eq_true (qO h).1),(qO h).2⟩
theorem wQ1(h:jC e=15):e=.Compare (cI (.Tuple [] 0 ⟨0,0,0,0⟩) e) (zT8 ([]) e) (Kl ([]) e) (lT (⟨0,0,0,0⟩) e):=(h▸vW e:nB 15 e=e).symm
@[irreducible] noncomputable def oJ(e:Expr)(f:Expr->(List CmpOp)->(List Expr)->Pos->Bool):Bool:=Nat.beq (jC e) 15&&f (cI (.Tuple [] 0 ⟨0,0,0,0⟩) e) (zT8 ([]) e) (Kl ([]) e) (lT (⟨0,0,0,0⟩) e)
theorem iJ(h:oJ e f=true):∃a c d b,e=.Compare a c d b∧f a c d b=true:=by
 delta oJ at h
 exact⟨_,_,_,_,wQ1 (Nat.eq_of_beq_eq_true (qO h).1),(qO h).2⟩
theorem zD5(h:jC e=16):e=.Call (cI (.Tuple [] 0 ⟨0,0,0,0⟩) e) (Kl ([]) e) (wX5 ([]) e) (lT (⟨0,0,0,0⟩) e):=(h▸vW e:nB 16 e=e).symm
@[irreducible] noncomputable def Jf(e:Expr)(f:Expr->(List Expr)->(List Keyword)->Pos->Bool):Bool:=Nat.beq (jC e) 16&&f (cI (.Tuple [] 0 ⟨0,0,0,0⟩) e) (Kl ([]) e) (wX5 ([]) e) (lT (⟨0,0,0,0⟩) e)
theorem Ks(h:Jf e f=true):∃a c d b,e=.Call a c d b∧f a c d b=true:=by
 delta Jf at h
 exact⟨_,_,_,_,zD5 (Nat.eq_of_beq_eq_true (qO h).1),(qO h).2⟩
theorem zE8(h:jC e=19):e=.Constant (wZ7 (.none) e) (Bq (0) e) (lT (⟨0,0,0,0⟩) e):=(h▸vW e:nB 19 e=e).symm
@[irreducible] noncomputable def fV(e:Expr)(f:Const->Nat->Pos->Bool):Bool:=Nat.beq (jC e) 19&&f (wZ7 (.none) e) (Bq (0) e) (lT (⟨0,0,0,0⟩) e)
theorem Jh(h:fV e f=true):∃a c b,e=.Constant a c b∧f a c b=true:=by
 delta fV at h
 exact jN _ _ _ (zE8 (Nat.eq_of_beq_eq_true (qO h).1)) ((qO h).2)
theorem zD6(h:jC e=20):e=.Attribute (cI (.Tuple [] 0 ⟨0,0,0,0⟩) e) (Bz (⟨#[]⟩) e) (lT (⟨0,0,0,0⟩) e):=(h▸vW e:nB 20 e=e).symm
@[irreducible] noncomputable def gP(e:Expr)(f:Expr->Str->Pos->Bool):Bool:=Nat.beq (jC e) 20&&f (cI (.Tuple [] 0 ⟨0,0,0,0⟩) e) (Bz (⟨#[]⟩) e) (lT (⟨0,0,0,0⟩) e)
theorem oV(h:gP e f=true):∃a c b,e=.Attribute a c b∧f a c b=true:=by
 delta gP at h
 exact jN _ _ _ (zD6 (Nat.eq_of_beq_eq_true (qO h).1)) ((qO h).2)
theorem zE6(h:jC e=21):e=.Subscript (cI (.Tuple [] 0 ⟨0,0,0,0⟩) e) (Ej (.Tuple [] 0 ⟨0,0,0,0⟩) e) (lT (⟨0,0,0,0⟩) e):=(h▸vW e:nB 21 e=e).symm
@[irreducible] noncomputable def Kt(e:Expr)(f:Expr->Expr->Pos->Bool):Bool:=Nat.beq (jC e) 21&&f (cI (.Tuple [] 0 ⟨0,0,0,0⟩) e) (Ej (.Tuple [] 0 ⟨0,0,0,0⟩) e) (lT (⟨0,0,0,0⟩) e)
theorem Nh(h:Kt e f=true):∃a c b,e=.Subscript a c b∧f a c b=true:=by
 delta Kt at h
 exact jN _ _ _ (zE6 (Nat.eq_of_beq_eq_true (qO h).1)) ((qO h).2)
theorem zI1(h:jC e=23):e=.Name (Bz (⟨#[]⟩) e) (lT (⟨0,0,0,0⟩) e):=(h▸vW e:nB 23 e=e).symm
@[irreducible] noncomputable def vT(e:Expr)(f:Str->Pos->Bool):Bool:=Nat.beq (jC e) 23&&f (Bz (⟨#[]⟩) e) (lT (⟨0,0,0,0⟩) e)
theorem lW(h:vT e f=true):∃a b,e=.Name a b∧f a b=true:=by
 delta vT at h
 exact nS _ _ (zI1 (Nat.eq_of_beq_eq_true (qO h).1)) ((qO h).2)
theorem zA7(h:jC e=24):e=.List (Kl ([]) e) (lT (⟨0,0,0,0⟩) e):=(h▸vW e:nB 24 e=e).symm
@[irreducible] noncomputable def Jm(e:Expr)(f:(List Expr)->Pos->Bool):Bool:=Nat.beq (jC e) 24&&f (Kl ([]) e) (lT (⟨0,0,0,0⟩) e)
theorem Ei(h:Jm e f=true):∃a b,e=.List a b∧f a b=true:=by
 delta Jm at h
 exact nS _ _ (zA7 (Nat.eq_of_beq_eq_true (qO h).1)) ((qO h).2)
theorem zO9(h:jC e=25):e=.Tuple (Kl ([]) e) (Bq (0) e) (lT (⟨0,0,0,0⟩) e):=(h▸vW e:nB 25 e=e).symm
@[irreducible] noncomputable def eG(e:Expr)(f:(List Expr)->Nat->Pos->Bool):Bool:=Nat.beq (jC e) 25&&f (Kl ([]) e) (Bq (0) e) (lT (⟨0,0,0,0⟩) e)
theorem iV(h:eG e f=true):∃a c b,e=.Tuple a c b∧f a c b=true:=by
 delta eG at h
 exact jN _ _ _ (zO9 (Nat.eq_of_beq_eq_true (qO h).1)) ((qO h).2)
noncomputable def rI(e:Stmt):Nat:=@Stmt.casesOn (λ_=>Nat) e (λ_ _ _ _ _ _ _ _ _ _=>0) (λ_ _ _ _ _ _ _ _ _ _=>1) (λ_ _ _ _ _ _ _ _ _ _ _=>2) (λ_ _=>3) (λ_ _=>4) (λ_ _ _=>5) (λ_ _ _ _ _ _ _=>6) (λ_ _ _ _=>7) (λ_ _ _ _ _=>8) (λ_ _ _ _ _=>9) (λ_ _ _ _ _=>10) (λ_ _ _ _=>11) (λ_ _ _ _=>12) (λ_ _ _=>13) (λ_ _ _=>14) (λ_ _ _=>15) (λ_ _ _=>16) (λ_ _ _ _ _=>17) (λ_ _ _ _ _=>18) (λ_ _ _=>19) (λ_ _=>20) (λ_ _ _ _=>21) (λ_ _=>22) (λ_ _=>23) (λ_ _=>24) (λ_=>25) (λ_=>26) (λ_=>27)
noncomputable def sp0(d:Option Expr)(e:Stmt):Option Expr:=@Stmt.casesOn (λ_=>Option Expr) e (λ_ _ _ _ _ _ _ _ _ _=>d) (λ_ _ _ _ _ _ _ _ _ _=>d) (λ_ _ _ _ _ _ _ _ _ _ _=>d) (λx _=>x) (wJ d) (zI d) (λ_ _ _ _ _ _ _=>d) (wX d) (lS d) (lS d) (lS d) (wX d) (wX d) (zI d) (zI d) (zI d) (zI d) (lS d) (lS d) (zI d) (wJ d) (wX d) (wJ d) (wJ d) (wJ d) (λ_=>d) (λ_=>d) (λ_=>d)
noncomputable def Wc(d:Pos)(e:Stmt):Pos:=@Stmt.casesOn (λ_=>Pos) e (λ_ _ _ _ _ _ _ _ _ _=>d) (λ_ _ _ _ _ _ _ _ _ _=>d) (λ_ _ _ _ _ _ _ _ _ _ _=>d) (λ_ x=>x) (wJ d) (λ_ _ x=>x) (λ_ _ _ _ _ _ _=>d) (λ_ _ _ x=>x) (lS d) (λ_ _ _ _ x=>x) (lS d) (λ_ _ _ x=>x) (λ_ _ _ x=>x) (zI d) (zI d) (zI d) (zI d) (lS d) (lS d) (zI d) (wJ d) (wX d) (wJ d) (wJ d) (λ_ x=>x) (λ_=>d) (λ_=>d) (λ_=>d)
noncomputable def sp2(d:List Expr)(e:Stmt):List Expr:=@Stmt.casesOn (λ_=>List Expr) e (λ_ _ _ _ _ _ _ _ _ _=>d) (λ_ _ _ _ _ _ _ _ _ _=>d) (λ_ _ _ _ _ _ _ _ _ _ _=>d) (wJ d) (wJ d) (λx _ _=>x) (λ_ _ _ _ _ _ _=>d) (wX d) (lS d) (lS d) (lS d) (wX d) (wX d) (zI d) (zI d) (zI d) (zI d) (lS d) (lS d) (zI d) (wJ d) (wX d) (wJ d) (wJ d) (wJ d) (λ_=>d) (λ_=>d) (λ_=>d)
noncomputable def Kg(d:Expr)(e:Stmt):Expr:=@Stmt.casesOn (λ_=>Expr) e (λ_ _ _ _ _ _ _ _ _ _=>d) (λ_ _ _ _ _ _ _ _ _ _=>d) (λ_ _ _ _ _ _ _ _ _ _ _=>d) (wJ d) (wJ d) (λ_ x _=>x) (λ_ _ _ _ _ _ _=>d) (λx _ _ _=>x) (lS d) (λx _ _ _ _=>x) (lS d) (λx _ _ _=>x) (λx _ _ _=>x) (zI d) (zI d) (zI d) (zI d) (lS d) (lS d) (zI d) (wJ d) (wX d) (wJ d) (wJ d) (λx _=>x) (λ_=>d) (λ_=>d) (λ_=>d)
noncomputable def sp4(d:Operator)(e:Stmt):Operator:=@Stmt.casesOn (λ_=>Operator) e (λ_ _ _ _ _ _ _ _ _ _=>d) (λ_ _ _ _ _ _ _ _ _ _=>d) (λ_ _ _ _ _ _ _ _ _ _ _=>d) (wJ d) (wJ d) (zI d) (λ_ _ _ _ _ _ _=>d) (λ_ x _ _=>x) (lS d) (lS d) (lS d) (wX d) (wX d) (zI d) (zI d) (zI d) (zI d) (lS d) (lS d) (zI d) (wJ d) (wX d) (wJ d) (wJ d) (wJ d) (λ_=>d) (λ_=>d) (λ_=>d)
noncomputable def M7(d:Expr)(e:Stmt):Expr:=@Stmt.casesOn (λ_=>Expr) e (λ_ _ _ _ _ _ _ _ _ _=>d) (λ_ _ _ _ _ _ _ _ _ _=>d) (λ_ _ _ _ _ _ _ _ _ _ _=>d) (wJ d) (wJ d) (zI d) (λ_ _ _ _ _ _ _=>d) (λ_ _ x _=>x) (lS d) (λ_ x _ _ _=>x) (lS d) (wX d) (wX d) (zI d) (zI d) (zI d) (zI d) (lS d) (lS d) (zI d) (wJ d) (wX d) (wJ d) (wJ d) (wJ d) (λ_=>d) (λ_=>d) (λ_=>d)
noncomputable def L3(d:List Stmt)(e:Stmt):List Stmt:=@Stmt.casesOn (λ_=>List Stmt) e (λ_ _ _ _ _ _ _ _ _ _=>d) (λ_ _ _ _ _ _ _ _ _ _=>d) (λ_ _ _ _ _ _ _ _ _ _ _=>d) (wJ d) (wJ d) (zI d) (λ_ _ _ _ _ _ _=>d) (wX d) (lS d) (λ_ _ x _ _=>x) (lS d) (λ_ x _ _=>x) (λ_ x _ _=>x) (zI d) (zI d) (zI d) (zI d) (lS d) (lS d) (zI d) (wJ d) (wX d) (wJ d) (wJ d) (wJ d) (λ_=>d) (λ_=>d) (λ_=>d)
noncomputable def L4(d:List Stmt)(e:Stmt):List Stmt:=@Stmt.casesOn (λ_=>List Stmt) e (λ_ _ _ _ _ _ _ _ _ _=>d) (λ_ _ _ _ _ _ _ _ _ _=>d) (λ_ _ _ _ _ _ _ _ _ _ _=>d) (wJ d) (wJ d) (zI d) (λ_ _ _ _ _ _ _=>d) (wX d) (lS d) (λ_ _ _ x _=>x) (lS d) (λ_ _ x _=>x) (λ_ _ x _=>x) (zI d) (zI d) (zI d) (zI d) (lS d) (lS d) (zI d) (wJ d) (wX d) (wJ d) (wJ d) (wJ d) (λ_=>d) (λ_=>d) (λ_=>d)
noncomputable def Kb(t:Nat)(e:Stmt):Stmt:=cond (Nat.beq t 3) (.Return (sp0 (none) e) (Wc (⟨0,0,0,0⟩) e)) (cond (Nat.beq t 5) (.Assign (sp2 ([]) e) (Kg (.Tuple [] 0 ⟨0,0,0,0⟩) e) (Wc (⟨0,0,0,0⟩) e)) (cond (Nat.beq t 7) (.AugAssign (Kg (.Tuple [] 0 ⟨0,0,0,0⟩) e) (sp4 (.Add) e) (M7 (.Tuple [] 0 ⟨0,0,0,0⟩) e) (Wc (⟨0,0,0,0⟩) e)) (cond (Nat.beq t 9) (.For (Kg (.Tuple [] 0 ⟨0,0,0,0⟩) e) (M7 (.Tuple [] 0 ⟨0,0,0,0⟩) e) (L3 ([]) e) (L4 ([]) e) (Wc (⟨0,0,0,0⟩) e)) (cond (Nat.beq t 11) (.While (Kg (.Tuple [] 0 ⟨0,0,0,0⟩) e) (L3 ([]) e) (L4 ([]) e) (Wc (⟨0,0,0,0⟩) e)) (cond (Nat.beq t 12) (.If (Kg (.Tuple [] 0 ⟨0,0,0,0⟩) e) (L3 ([]) e) (L4 ([]) e) (Wc (⟨0,0,0,0⟩) e)) (cond (Nat.beq t 24) (.Expr (Kg (.Tuple [] 0 ⟨0,0,0,0⟩) e) (Wc (⟨0,0,0,0⟩) e)) (e)))))))
theorem rO(e:Stmt):Kb (rI e) e=e:=by cases e<;>rfl
theorem wF2(h:rI e=3):e=.Return (sp0 (none) e) (Wc (⟨0,0,0,0⟩) e):=(h▸rO e:Kb 3 e=e).symm
@[irreducible] noncomputable def sQ(e:Stmt)(f:(Option Expr)->Pos->Bool):Bool:=Nat.beq (rI e) 3&&f (sp0 (none) e) (Wc (⟨0,0,0,0⟩) e)
theorem Eo(h:sQ e f=true):∃a b,e=.Return a b∧f a b=true:=by
 delta sQ at h
 exact nS _ _ (wF2 (Nat.eq_of_beq_eq_true (qO h).1)) ((qO h).2)
theorem wK0(h:rI e=5):e=.Assign (sp2 ([]) e) (Kg (.Tuple [] 0 ⟨0,0,0,0⟩) e) (Wc (⟨0,0,0,0⟩) e):=(h▸rO e:Kb 5 e=e).symm
@[irreducible] noncomputable def eF(e:Stmt)(f:(List Expr)->Expr->Pos->Bool):Bool:=Nat.beq (rI e) 5&&f (sp2 ([]) e) (Kg (.Tuple [] 0 ⟨0,0,0,0⟩) e) (Wc (⟨0,0,0,0⟩) e)
theorem zL4(h:eF e f=true):∃a c b,e=.Assign a c b∧f a c b=true:=by
 delta eF at h
 exact jN _ _ _ (wK0 (Nat.eq_of_beq_eq_true (qO h).1)) ((qO h).2)
theorem wP1(h:rI e=7):e=.AugAssign (Kg (.Tuple [] 0 ⟨0,0,0,0⟩) e) (sp4 (.Add) e) (M7 (.Tuple [] 0 ⟨0,0,0,0⟩) e) (Wc (⟨0,0,0,0⟩) e):=(h▸rO e:Kb 7 e=e).symm
@[irreducible] noncomputable def oU(e:Stmt)(f:Expr->Operator->Expr->Pos->Bool):Bool:=Nat.beq (rI e) 7&&f (Kg (.Tuple [] 0 ⟨0,0,0,0⟩) e) (sp4 (.Add) e) (M7 (.Tuple [] 0 ⟨0,0,0,0⟩) e) (Wc (⟨0,0,0,0⟩) e)
theorem Aq(h:oU e f=true):∃a c d b,e=.AugAssign a c d b∧f a c d b=true:=by
 delta oU at h
 exact⟨_,_,_,_,wP1 (Nat.eq_of_beq_eq_true (qO h).1),(qO h).2⟩
theorem wK8(h:rI e=9):e=.For (Kg (.Tuple [] 0 ⟨0,0,0,0⟩) e) (M7 (.Tuple [] 0 ⟨0,0,0,0⟩) e) (L3 ([]) e) (L4 ([]) e) (Wc (⟨0,0,0,0⟩) e):=(h▸rO e:Kb 9 e=e).symm
@[irreducible] noncomputable def oK(e:Stmt)(f:Expr->Expr->(List Stmt)->(List Stmt)->Pos->Bool):Bool:=Nat.beq (rI e) 9&&f (Kg (.Tuple [] 0 ⟨0,0,0,0⟩) e) (M7 (.Tuple [] 0 ⟨0,0,0,0⟩) e) (L3 ([]) e) (L4 ([]) e) (Wc (⟨0,0,0,0⟩) e)
theorem Az(h:oK e f=true):∃a c g b d,e=.For a c g b d∧f a c g b d=true:=by
 delta oK at h
 exact⟨_,_,_,_,_,wK8 (Nat.eq_of_beq_eq_true (qO h).1),(qO h).2⟩
theorem wZ5(h:rI e=11):e=.While (Kg (.Tuple [] 0 ⟨0,0,0,0⟩) e) (L3 ([]) e) (L4 ([]) e) (Wc (⟨0,0,0,0⟩) e):=(h▸rO e:Kb 11 e=e).symm
@[irreducible] noncomputable def oP(e:Stmt)(f:Expr->(List Stmt)->(List Stmt)->Pos->Bool):Bool:=Nat.beq (rI e) 11&&f (Kg (.Tuple [] 0 ⟨0,0,0,0⟩) e) (L3 ([]) e) (L4 ([]) e) (Wc (⟨0,0,0,0⟩) e)
theorem Aw(h:oP e f=true):∃a c d b,e=.While a c d b∧f a c d b=true:=by
 delta oP at h
 exact⟨_,_,_,_,wZ5 (Nat.eq_of_beq_eq_true (qO h).1),(qO h).2⟩
theorem zS9(h:rI e=12):e=.If (Kg (.Tuple [] 0 ⟨0,0,0,0⟩) e) (L3 ([]) e) (L4 ([]) e) (Wc (⟨0,0,0,0⟩) e):=(h▸rO e:Kb 12 e=e).symm
@[irreducible] noncomputable def Kc(e:Stmt)(f:Expr->(List Stmt)->(List Stmt)->Pos->Bool):Bool:=Nat.beq (rI e) 12&&f (Kg (.Tuple [] 0 ⟨0,0,0,0⟩) e) (L3 ([]) e) (L4 ([]) e) (Wc (⟨0,0,0,0⟩) e)
theorem zW0(h:Kc e f=true):∃a c d b,e=.If a c d b∧f a c d b=true:=by
 delta Kc at h
 exact⟨_,_,_,_,zS9 (Nat.eq_of_beq_eq_true (qO h).1),(qO h).2⟩
theorem zI7(h:rI e=24):e=.Expr (Kg (.Tuple [] 0 ⟨0,0,0,0⟩) e) (Wc (⟨0,0,0,0⟩) e):=(h▸rO e:Kb 24 e=e).symm
@[irreducible] noncomputable def oG(e:Stmt)(f:Expr->Pos->Bool):Bool:=Nat.beq (rI e) 24&&f (Kg (.Tuple [] 0 ⟨0,0,0,0⟩) e) (Wc (⟨0,0,0,0⟩) e)
theorem zG2(h:oG e f=true):∃a b,e=.Expr a b∧f a b=true:=by
 delta oG at h
 exact nS _ _ (zI7 (Nat.eq_of_beq_eq_true (qO h).1)) ((qO h).2)
@[irreducible] noncomputable def wC{α:Type}(l:List α)(f:α->Bool):Bool:=match l with
 |[a]=>f a
 |_=>false
theorem jE(h:wC l f=true):∃a,l=[a]∧f a=true:=by
 delta wC at h
 rcases l with _|⟨a,_|⟨b,r⟩⟩
 ·cases h
 ·exact qZ a rfl h
 ·cases h
@[irreducible] noncomputable def pB{α:Type}(l:Option α)(f:α->Bool):Bool:=match l with
 |some a=>f a
 |none=>false
theorem sZ(h:pB l f=true):∃a,l=some a∧f a=true:=by
 delta pB at h
 cases l with
 |none=>cases h
 |some a=>exact qZ a rfl h
@[irreducible] noncomputable def qO0(c:Const)(f:Str->Bool):Bool:=match c with
 |.str x=>f x
 |_=>false
theorem zX7(h:qO0 c f=true):∃x,c=.str x∧f x=true:=by
 delta qO0 at h
 cases c<;>first|exact(qZ _ rfl h)|cases h
noncomputable def M9(c:Const)(i:Int):Bool:=match c with
 |.int j=>j==i
 |_=>false
theorem wL2(h:M9 c i=true):c=.int i:=by
 cases c<;>first|(rw[<-show _=i from beq_iff_eq.mp h])|cases h
@[irreducible] noncomputable def Xd(l:List Comprehension)(f:Expr->Expr->List Expr->Bool):Bool:=wC l λg=>(g.is_async==0)&&f g.target g.iter g.ifs
theorem Nm(h:Xd l f=true):∃t i b,l=[⟨t,i,b,0⟩]∧f t i b=true:=by
 delta Xd at h
 refine qY (jE h) λc d q=>?_;obtain⟨t,i,b,a⟩:=c;subst d;obtain⟨e,g⟩:=qO q;obtain rfl:a=0:=beq_iff_eq.mp e;exact jN t i b rfl g
@[irreducible] noncomputable def yR{α:Type}(l:List α)(f:α->List α->Bool):Bool:=match l with
 |a::r=>f a r
 |[]=>false
theorem vB(h:yR l f=true):∃a r,l=a::r∧f a r=true:=by
 delta yR at h
 cases l with
 |nil=>cases h
 |cons a r=>exact nS a r rfl h
noncomputable def jM(a:List (Str×NameKind))(k:Nat)(kd:NameKind)(e:Expr):Bool:=vT e λx _=>Nat.blt k NN&&sE x (nm k)&&kQ a (nm k) kd
theorem kG(h:jM ks k kd e=true):∃p,e=.Name (nm k) p∧k<NN∧ks.lookup (nm k)=some kd:=by
 refine yX (lW h) λx p a q=>?_;subst a;obtain⟨q,b⟩:=qO q;obtain⟨c,d⟩:=qO q;exact zU p (qX (Jp d) rfl) (oY c) (Jg b)
noncomputable def Ax(k:Nat)(e:Expr):Bool:=fV e λc _ _=>qO0 c λx=>Nat.blt k NN&&sE x (nm k)
theorem Nn(h:Ax k e=true):∃kd p,e=.Constant (.str (nm k)) kd p∧k<NN:=by
 refine jP (Jh h) λc kd p a q=>?_;subst a;refine qY (zX7 q) λx a b=>?_;subst a;obtain⟨d,f⟩:=qO b;exact nS kd p (qX (Jp f) rfl) (oY d)
noncomputable def uB:List Nat->List (Option Expr)->Bool
 |[],l=>l.isEmpty
 |k::a,l=>yR l λc r=>pB c (Ax k)&&uB a r
theorem sW(h:uB (k::ks) l=true):∃kd p r,l=some (.Constant (.str (nm k)) kd p)::r∧k<NN∧uB ks r=true:=by
 refine yX (vB h) λc r a q=>?_;subst a;obtain⟨b,d⟩:=qO q;refine qY (sZ b) λe a f=>?_;subst a;refine yX (Nn f) λkd p a g=>?_;subst a;exact zE4 kd p r rfl g d
section
open PySem.Calls Builtin Builtin.ObjectAttr
def VQ(Q:AV->St->Prop):Value->St->Prop:=λv b=>∃a,Is v a∧Q a b
theorem Is.handed(h:Is v a):handedIn v=true:=by cases h<;>rfl
theorem qV2{h:Heap}(x:h.DictOf (SK w) d kvs):∃b a ep,h.get? d=some b∧b={cls:=.type "dict",data:=.dict a ep}∧(∀name,lookIn name b=some (qU3 kvs name)):=by
 refine tZ x λn a ep e g i o p v=>?_;clear x;obtain⟨c,y,z,A⟩:=n;refine wH g λj l m=>?_;clear g;simp only at j l m i;subst j l m i;refine zE4 _ a ep e rfl (λname=>?_);unfold lookIn;dsimp only;have hf:=p.find name;have r:(λe:qA9=>(SK w).is name e.key)=λe=>e.key.isStr name:=funext λe=>(by
  show Value.isStrOf name e.key=_;cases e.key<;>rfl)
 replace hf:=r▸hf;refine qX (C6 (hf)) ?_;cases q:a.toList.find? (λe=>e.key.isStr name) with
 |some e=>rfl
 |none=>
  have:a.toList.any (·.refKey)=false:=by
   rw[qO5];intro e s;refine qY (o e (Array.mem_toList_iff.mp s)) λk f _=>?_;obtain⟨t,u⟩:=Value.isStrOf_shape f;simp[qE1,u]
  dsimp only;exact qX this rfl
noncomputable def qF8(K:Frag)(C:Addr)(k:Nat):Bool:=qT6 K C&&qB0 K C&&(qN9 K C (nm k)==some none)
theorem Xe(K:Frag)(C:Addr)(k:Nat):qF8 K C k=(zH3 K C (nm k)&&qB0 K C&&(qP1 K (.ref C) (nm k)==some none)):=by
 unfold qF8;rw[qT1 K C (nm k),qG6]
noncomputable def qT0(K:Frag)(C:Addr)(k:Nat):Bool:=(qN9 K C "__setattr__"==some (some (.builtin "object.__setattr__")))&&plainOver K C&&(qN9 K C (nm k)==some none)&&qB0 K C&&decide (k<NN)
theorem mI{C:Nat}(a:Rep Z κ s H)(h:H.obj C t=some f):∃d l kvs,κ t=some (.obj C d)∧κ d=some (.dat t l)∧f=zE l∧s.heap.get? t=some (qK7 C d)∧s.heap.DictOf (SK Z.w) d kvs∧zK pK kvs l:=by
 refine wV (a.view.obj C t f h) λd l p q r=>qY ((a.cells d _ q).1) λkvs x y=>?_;exact cM d l kvs p q r ((a.cells t _ p).1) x y
theorem dQ(O:Z.Ok){C k:Nat}{t:Addr}{f:M}{a:AV}{ex:Bool}{Q:AV->St->Prop}(b:qF8 Z.K C k=true)(j:k<NN)(h:H.obj C t=some f)(i:f k=some a)(q:Q a H):
  R9 Z n lc (qN0 (.ref t) (nm k) ex) H (VQ Q) R:=by
 intro A E F m s p G c J r K;refine tZ (mI c h) λd l e L N u w x y=>?_;subst u;refine gL (qV2 x) λz P S B T D=>?_;have o:=vZ y j;replace o:=i▸o;cases g:qU3 e (nm k) with
 |none=>rw[g] at o;cases o
 |some v=>
  replace o:=g▸o;cases o with
  |some o=>
   rw[Xe] at b;simp only[Bool.and_eq_true,beq_iff_eq] at b;have I:InstAt s.heap t (qK7 C d) C (some z):=⟨w,rfl,rfl,B⟩;exact get_value (O.X.keeps c.old) I (qM3 b.1.1).1 (findObj_own b.1.2 b.2 rfl (by rw[D,g])) o.handed (r v _ m H c.toks (yL.refl _ _) (qZ a o q))
theorem oF{G:Model}{A:O3}{E:Value->S8->Prop}{w:qQ2}{s:S8}{d:Addr}{kvs:List (Str×Value)}{name:Str}{v:Value}{Q:Unit->S8->Prop}(O:G.w=w)(F:s.heap.DictOf (SK w) d kvs)
  (P:∀h',h'.DictOf (SK w) d (qH0 kvs name v)->qG0 d s.heap h'->Q () {s with heap:=h',toks:=s.toks+1}):D8 G A (nsSet d name v) Q E s:=by
 refine tZ F λo g H q I r u x y=>?_;clear F;have J:(λe:qA9=>(SK w).is name e.key)=λe=>e.key.isStr name:=funext λe=>(by
  show Value.isStrOf name e.key=_;cases e.key<;>rfl)
 have j:g.any (·.refKey)=false:=by
  rw[Array.any_eq_false'];intro e R;refine qY (u e R) λk B _=>?_;obtain⟨t,S⟩:=Value.isStrOf_shape B;simp[qE1,S]
 unfold nsSet PySem.strHash;refine R8 (R8 (wpAny_askSetting (S5 (R8 (qO6 (R8 (qM4 (s:={s with toks:=s.toks+1}) q ?_)))))));refine qX (r) ?_;dsimp only;rw[aRefKeyMayBeTheName_eq,aRefKeyMayBeTheNameByArray,j,Bool.and_false,D9 Bool.false_ne_true];refine wpAny_updatePart (s:={s with toks:=s.toks+1}) q ?_;have hidx:=x.findIdx name;replace hidx:=J▸hidx;refine P _ ?_ (A5 ..);obtain⟨c,U,V,W⟩:=o;simp only at r;subst r;refine wH I λK L M=>?_;clear I;simp only at K L M;subst K L M;have l:g.findIdx? (λe=>e.key.isStr name)=g.toList.findIdx? λe=>e.key.isStr name:=by rw[<-List.findIdx?_toArray]
 cases h:kvs.findIdx? (λm=>decide (m.1=name)) with
 |some i=>
  have f:g.findIdx? (·.key.isStr name)=some i:=qX l (qX hidx (qX h rfl));have C:g.toList.findIdx? (λe=>(SK w).is name e.key)=some i:=qX J (qX hidx (qX h rfl));refine cM _ _ H (D7 _ q (by simp only[Obj.putName_eq,Obj.putNameByArray,f];rfl)) (by simp only[Obj.putName_eq,Obj.putNameByArray,f];exact⟨rfl,rfl,rfl⟩) (by simp only[Obj.putName_eq,Obj.putNameByArray,f];rfl) (u.modify _ _) ?_ ?_
  ·unfold qH0;refine qX (zS3 h) (qX (A3 rfl) ?_);have:=x.modify y (v:=v) C;simpa using this
  ·unfold qH0;rw[zS3 h,A3 rfl,keys_map_store];exact y
 |none=>
  have f:g.findIdx? (·.key.isStr name)=none:=qX l (qX hidx (qX h rfl));have n:=not_mem_of_findIdx_none h;have p:(kvs.any λm=>decide (m.1=name))=false:=by
   rw[qO5];intro m D z;exact n (T8.mpr (qZ m D (by simpa using z)))
  refine cM _ _ (H+1) (D7 _ q (by simp only[Obj.putName_eq,Obj.putNameByArray,f];rfl)) (by simp only[Obj.putName_eq,Obj.putNameByArray,f];exact⟨rfl,rfl,rfl⟩) (by simp only[Obj.putName_eq,Obj.putNameByArray,f];rfl) ?_ ?_ ?_
  ·have:=u.push (k:=name) (key:=.str name s.toks) (qW1 O7 w name s.toks) v;rw[<-O] at this⊢;exact this
  ·unfold qH0;rw[p,D9 Bool.false_ne_true];refine qX (Array.toList_push) ?_;exact x.append (k:=name) (key:=.str name s.toks) (qW1 O7 w name s.toks) _ v
  ·unfold qH0;refine qX (p) (qX (D9 Bool.false_ne_true) (qX (C8) ?_));refine qZ0.mpr ⟨y,by simp,?_⟩;intro a T b N;simp at N;subst N
   rintro rfl;exact n T
theorem Xa(O:Z.Ok){C k:Nat}{t:Addr}{f:M}{v:Value}{a:AV}{Q:Unit->St->Prop}(u:qT0 Z.K C k=true)(h:H.obj C t=some f)(F:Is v a)(q:Q () (H.qL C t (up f k a))):
  R9 Z n lc (qO7 (.ref t) (nm k) v) H Q R:=by
 intro A E Qc κ s G hF e hl J kx;refine tZ (mI e h) λd l g K x L y z N=>?_;subst L;refine gL (qV2 z) λP es ep S e2 e3=>?_;simp only[qT0,qG6,Bool.and_eq_true,beq_iff_eq,decide_eq_true_eq] at u;obtain⟨⟨⟨⟨T,U⟩,i⟩,W⟩,Y⟩:=u;have g3:takerIn Z.K C (nm k)=some none:=by unfold takerIn;exact qX i rfl
 have I:InstAt s.heap t (qK7 C d) C (some P):=⟨y,rfl,rfl,S⟩;have X:=O.X.keeps e.old;refine wH6 X I T (osa_open (s:={s with toks:=s.toks+1}) X I U g3 λb=>?_);refine qY (any_some W) λcd hc j=>?_;refine R8 (S5 (R8 (R8 (qM4 (s:={s with toks:=s.toks+1}) y (R8 ((qB9 (h:=s.heap) X hc).at ?_))))));refine qX (j) ?_;refine S5 (a:=some d) (R8 (S5 (R8 ?_)));refine oF (w:=Z.w) rfl z λh' m hs=>?_;have B:=uT N Y F;have D:(qH0 g (nm k) v).length≤NN:=by obtain⟨_,_,_,_,_,_,_,_,hn⟩:=m;exact lZ B hn
 refine tZ (id m) λo' aa ab o ac p ae r af=>?_;refine R8 (wH7 o ?_ ?_)
 ·refine qX (p) ?_;refine wH8 ?_;have:=r.length;replace this:=qX1▸this;refine qX (this) (qX (O9) ?_);have:NN=267:=rfl;lia
 ·have V:=e.view.putDat (l:=qJ9 l k a) K x;rw[kE] at V;obtain⟨r1,r2⟩:=e.upd (b:=d) (c:=.dat t (qJ9 l k a)) (tk:=s.toks+1+1) x rfl hs.extBut (qZ _ m B) V;exact S5 (J () _ _ _ r1 r2 q)
end
section
set_option genSizeOf false
set_option genCtorIdx false
set_option genInjectivity false
inductive Ik where
 |lst (tg:Nat)|dZ|chars|qk (tg:Nat)
inductive Tg where
 |one (k:Nat)|tup (ks:List Nat)
set_option genCtorIdx true in
inductive L5 where
 |add|sub|mod
inductive COp where
 |lt|le|gt|ge|uO|tU|By|fD|iU (a b:Nat)|Ay (a b:Nat)|neT|F3 (a b:Nat)|neD (a b:Nat)|Bj (tg:Nat)|N3 (tg:Nat)|N5 (tg:Nat)
mutual
inductive X where
 |bad
 |R3 (a:AV)
 |N9 (k:Nat)
 |qG (k:Nat)
 |R5 (k:Nat) (a:AV)
 |R4 (C:Nat) (e:X) (k:Nat)
 |wZ (tg:Nat) (e i:X)
 |xS (e i:X)
 |Bv (i:X)
 |qA (tg:Nat) (e i:X)
 |subQ (tg:Nat) (e i:X)
 |nE (e i:X)
 |bin (op:L5) (a b:X)
 |R6 (op:COp) (a b:X)
 |not (e:X)
 |and (es:Xs)
 |or (es:Xs)
 |ite (t:Tt) (a b:X)
 |list (tg:Nat) (es:Xs)
 |tup (es:Xs)
 |dict (tg:Nat) (ks:List Nat) (vs:Xs)
 |oH (tg:Nat)
 |oM
 |call (f:X) (es:Xs)
 |oN (C:Nat) (e:X) (k:Nat) (f:Addr) (es:Xs)
 |oR (C:Nat) (e:X) (k:Nat) (es:Xs)
 |uX (tg:Nat) (e:X)
 |max2 (a b:X)
 |Jn (tg:Nat) (e:X)
 |sortI (tg:Nat) (e:X)
 |zO (tg:Nat) (elt:X) (t:Tg) (ik:Ik) (it:X) (ifs:dW)
 |eH (tg:Nat) (t:Nat) (v:X) (it:X)
 |append (tg:Nat) (e x:X)
 |pop (tg:Nat) (e:X)
 |Fi (tg:Nat) (e:X)
 |remove (tg:Nat) (e x:X)
 |Kd (tg:Nat) (e k d:X)
 |dX (tg:Nat)
 |extend (tg tg2:Nat) (e x:X)
 |rQ (i:X)
 |eR (i:X)
 |gG
 |sX (tg:Nat) (t:Nat) (v:X) (it:X)
 |neg (j:Int)
 |mulL (tg tg2:Nat) (e i:X)
 |Bu
inductive Xs where
 |nil
 |cons (x:X) (r:Xs)
inductive Tt where
 |not (t:Tt)
 |and (ts:dW)
 |or (ts:dW)
 |lst (tg:Nat) (e:X)
 |val (e:X)
inductive dW where
 |nil
 |cons (t:Tt) (r:dW)
end
inductive T where
 |N9 (k:Nat)
 |qG (k:Nat)
 |R4 (C:Nat) (e:X) (k:Nat)
 |wZ (tg:Nat) (e i:X)
 |qA (tg:Nat) (e i:X)
 |subQ (tg:Nat) (e i:X)
 |nE (e i:X)
 |F4 (ks:List (Bool×Nat))
mutual
inductive S where
 |bad
 |expr (e:X)
 |R7 (t:T) (e:X)
 |aM (C:Nat) (e:X) (k:Nat) (op:L5) (v:X)
 |Fo (tg:Nat) (e i:X) (op:L5) (v:X)
 |ret (e:X)
 |Ke
 |ite (t:Tt) (a b:Ss)
 |Jr (t:Tt) (b:Ss)
 |yM (c:Bool) (k:Nat) (ik:Ik) (it:X) (b:Ss)
 |raise (e:X)
 |Bk (c:Nat) (cs:List Nat) (t:Addr)
inductive Ss where
 |nil
 |cons (s:S) (r:Ss)
end
def T9{α:Type}(o:Option α)(f:α->Prop):Prop:=∃a,o=some a∧f a
@[simp] theorem wY8(a:α)(f:α->Prop):T9 (some a) f↔f a:=by simp[T9]
noncomputable def rf:AV->Option Addr|.ref a=>some a|_=>none
noncomputable def it:AV->Option Int|.int i=>some i|_=>none
noncomputable def sr:AV->Option Nat|.str k=>some k|_=>none
noncomputable def bl:AV->Option Bool|.bool b=>some b|_=>none
noncomputable def U5:AV->AV->Option Bool
 |.none,.none=>some true
 |.none,.int _=>some false
 |.none,.str _=>some false
 |.int _,.none=>some false
 |.str _,.none=>some false
 |.int a,.int b=>some (decide (a=b))
 |.str a,.str b=>some (decide (a=b))
 |.int _,.str _=>some false
 |.str _,.int _=>some false
 |.bool a,.bool b=>some (decide (a=b))
 |_,_=>none
noncomputable def qX3:AV->Bool|.int _=>true|_=>false
noncomputable def Xi(vs us:List AV):Option Bool:=
 if vs.length=us.length then(if vs.all qX3&&us.all qX3 then some (decide (vs=us)) else none) else some false
noncomputable def uC(vs:List AV)(i:Int):Option AV:=if i=-1 then vs.getLast? else if 0≤i then vs[i.toNat]? else none
noncomputable def sgn(i:Int):Option AV:=if i=0 then some (.str 1) else if i=1 then some (.str 2) else if i=2 then some (.str 3) else none
noncomputable def pP(l:List (Nat×Addr×AV))(k:Nat):Option AV:=(l.find? λp=>p.1=k).map (·.2.2)
noncomputable def sY(l:List (Nat×Addr×AV))(k:Nat)(a:Addr)(v:AV):List (Nat×Addr×AV):=if l.any (λp=>p.1=k) then l.map (λp=>if p.1=k then(p.1,p.2.1,v) else p) else l++[(k,a,v)]
noncomputable def Bl(l:List (Int×AV))(k:Int):Option AV:=(l.find? λp=>p.1=k).map (·.2)
noncomputable def Bp(l:List (Int×AV))(k:Int)(v:AV):List (Int×AV):=if l.any (λp=>p.1=k) then l.map (λp=>if p.1=k then(p.1,v) else p) else l++[(k,v)]
noncomputable def sJ(H:St)(a:Addr):Option Nat:=(H.tup a).bind λb=>(b.head?.bind sr).bind λk=>if b=[.str k,.none] then some k else none
noncomputable def sV:L5->Int->Int->Option Int
 |.add,a,b=>some (a+b)
 |.sub,a,b=>some (a-b)
 |.mod,a,b=>if 0<b then some (a% b) else none
structure qD(H:St)(a:Addr):Prop where
 obj:∀C t,(H.obj C t).isSome=true->(t=a)=False
 lst:∀g t,(H.lst g t).isSome=true->(t=a)=False
 tup:∀t,(H.tup t).isSome=true->(t=a)=False
 sd:∀g t,(H.sd g t).isSome=true->(t=a)=False
 td:∀g t,(H.td g t).isSome=true->(t=a)=False
 yT:∀t,(H.yT t).isSome=true->(t=a)=False
 qG:∀g t,(H.qG g t).isSome=true->(t=a)=False
 fn:∀g t,(H.fn g t).isSome=true->(t=a)=False
def wX7(Z:Ctx)(f:Addr)(H:St):Prop:=qH1 Z.K (.ref f)=true∨∃c cs,H.fn c f=some cs
def qB(Z:Ctx)(n:Nat)(f:Addr)(a:List AV)(H:St)(Q:AV->St->Prop)(R:Value->St->Prop):Prop:=
 wX7 Z f H∧∀vs,zK Is vs a->R9 Z n none (call (.ref f) vs) H (VQ Q) R
noncomputable def qL1(H:St):AV->Option Bool
 |.none=>some false
 |.bool b=>some b
 |.int i=>some (decide (i≠0))
 |_=>none
def lX(Z:Ctx)(a:Addr)(ns:List Int):Prop:=∃vs:List Value,Z.h₀.IsList a vs.toArray∧zK Is vs (ns.map AV.int)∧vs.length<1000
noncomputable abbrev Fm:=Nat->Option Addr
noncomputable def lB(op:COp)(a b:AV)(H:St):Option Bool:=match op with
 |.lt=>(it a).bind λx=>(it b).bind λy=>some (decide (x<y))
 |.le=>(it a).bind λx=>(it b).bind λy=>some (decide (x≤y))
 |.gt=>(it a).bind λx=>(it b).bind λy=>some (decide (x>y))
 |.ge=>(it a).bind λx=>(it b).bind λy=>some (decide (x≥y))
 |.uO=>U5 a b
 |.tU=>(U5 a b).map not
 |.By=>if b=.none then some (decide (a=.none)) else none
 |.fD=>if b=.none then some (decide (a≠.none)) else none
 |.iU s t=>(rf a).bind λx=>(rf b).bind λy=>(H.lst s x).bind λc=>(H.lst t y).bind λd=>Xi c d
 |.Ay s t=>(rf a).bind λx=>(rf b).bind λy=>(H.lst s x).bind λc=>(H.lst t y).bind λd=>(Xi c d).map not
 |.neT=>match a,b with
  |.none,.none=>some false
  |.ref x,.none=>(H.tup x).map λ_=>true
  |.none,.ref y=>(H.tup y).map λ_=>true
  |.ref x,.ref y=>(H.tup x).bind λc=>(H.tup y).bind λd=>if c.all (λv=>(sr v).isSome)&&d.all (λv=>(sr v).isSome) then some (decide (c≠d)) else none
  |_,_=>none
 |.F3 s t=>(rf a).bind λx=>(rf b).bind λy=>(H.sd s x).bind λc=>(H.sd t y).bind λd=>if c.all (λp=>qX3 p.2)&&d.all (λp=>qX3 p.2)&&decide (c.map (·.1)=d.map (·.1)) then some (decide (c=d)) else none
 |.neD s t=>(rf a).bind λx=>(rf b).bind λy=>(H.sd s x).bind λc=>(H.sd t y).bind λd=>if c.all (λp=>qX3 p.2)&&d.all (λp=>qX3 p.2)&&decide (c.map (·.1)=d.map (·.1)) then some (decide (c≠d)) else none
 |.Bj t=>(rf a).bind λx=>(sJ H x).bind λk=>(rf b).bind λy=>(H.td t y).bind λl=>some (decide (pP l k=none))
 |.N3 t=>(rf b).bind λy=>(H.lst t y).bind λc=>if c=[] then some false else none
 |.N5 t=>match a,b with
  |.str x,.str y=>some (decide (x=y))
  |.ref x,.str _=>(H.lst t x).map λ_=>false
  |_,_=>none
noncomputable def sU:AV->Bool|.int _=>true|.str _=>true|_=>false
noncomputable def gF(H:St)(us:List AV):List AV->Option Nat
 |[]=>none
 |v::r=>(rf v).bind λt=>(H.tup t).bind λa=>if a.all sU&&us.all sU then(if a=us then some 0 else(gF H us r).map (·+1)) else none
noncomputable def Ka:List (Nat×AV):=[(1,.str 2),(2,.str 3),(3,.str 1)]
noncomputable def Ki:List AV:=[1,0,3,1,1,0,1,1,0,0,0,0,0,0,0,1,4,1,0,1,2].map AV.int
noncomputable def vC(l:List (Nat×AV)):List (Nat×AV):=l.foldl (λd p=>qJ9 d p.1 p.2) []
def xB{β:Type}(inv:St->Prop)(step:AV->(Option β->St->Prop)->St->Prop):List AV->List β->(List β->St->Prop)->St->Prop
 |[],a,Q,H=>inv H∧Q a H
 |v::r,a,Q,H=>inv H∧step v (λo b=>match o with|some x=>xB inv step r (a++[x]) Q b|none=>xB inv step r a Q b) H
noncomputable def lY(i:Int):List AV:=(B4 i.toNat).map λ(k:Nat)=>AV.int k
def eS(ik:Ik)(v:AV)(H:St)(f:List AV->(St->Prop)->Prop):Prop:=match ik with
 |.lst tg=>T9 (rf v) λa=>T9 (H.lst tg a) λc=>f c λb=>b.lst tg a=some c
 |.dZ=>T9 (it v) λi=>0≤i∧i<2^20∧f (lY i) λ_=>True
 |.chars=>v=.str 6∧f [.str 1,.str 2,.str 3] λ_=>True
 |.qk tg=>T9 (rf v) λa=>T9 (H.td tg a) λl=>f (l.map λp=>AV.ref p.2.1) λb=>b.td tg a=some l
noncomputable def M.one(k:Nat)(v:AV):M:=λx=>if x=k then some v else none
noncomputable def ups(m:M):List Nat->List AV->M
 |k::a,v::b=>ups (up m k v) a b
 |_,_=>m
def oS(t:Tg)(v:AV)(H:St)(f:M->Prop):Prop:=match t with
 |.one k=>f (M.one k v)
 |.tup ks=>T9 (rf v) λx=>T9 (H.tup x) λa=>a.length=ks.length∧f (ups (λ_=>none) ks a)
mutual
def wE(Z:Ctx)(n:Nat)(F:Fm)(R:Value->St->Prop):X->M->(AV->St->Prop)->St->Prop
 |.bad,_,_,_=>False
 |.R3 a,_,Q,H=>Q a H
 |.N9 k,m,Q,H=>T9 (m k) λa=>Q a H
 |.qG k,_,Q,H=>T9 (F k) λc=>T9 (H.qG k c) λo=>T9 o λa=>Q a H
 |.R5 _ a,_,Q,H=>Q a H
 |.R4 C e k,m,Q,H=>wE Z n F R e m (λv h=>T9 (rf v) λt=>T9 (h.obj C t) λf=>T9 (f k) λa=>Q a h) H
 |.wZ tg e i,m,Q,H=>wE Z n F R e m (λv h=>wE Z n F R i m (λu q=>T9 (rf v) λa=>T9 (q.lst tg a) λs=>T9 (it u) λj=>T9 (uC s j) λx=>Q x q) h) H
 |.xS e i,m,Q,H=>wE Z n F R e m (λv h=>wE Z n F R i m (λu q=>T9 (rf v) λa=>T9 (q.tup a) λs=>T9 (it u) λj=>T9 (uC s j) λx=>Q x q) h) H
 |.Bv i,m,Q,H=>wE Z n F R i m (λu q=>T9 (it u) λj=>T9 (sgn j) λx=>Q x q) H
 |.qA tg e i,m,Q,H=>wE Z n F R e m (λv h=>wE Z n F R i m (λu q=>T9 (rf v) λa=>T9 (q.sd tg a) λl=>T9 (sr u) λj=>T9 (zE l j) λx=>Q x q) h) H
 |.subQ tg e i,m,Q,H=>wE Z n F R e m (λv h=>wE Z n F R i m (λu q=>T9 (rf v) λa=>T9 (q.td tg a) λl=>T9 (rf u) λt=>T9 (sJ q t) λj=>T9 (pP l j) λx=>Q x q) h) H
 |.nE e i,m,Q,H=>wE Z n F R e m (λv h=>wE Z n F R i m (λu q=>T9 (rf v) λa=>T9 (q.yT a) λl=>T9 (it u) λj=>T9 (Bl l j) λx=>Q x q) h) H
 |.bin op a b,m,Q,H=>wE Z n F R a m (λv h=>wE Z n F R b m (λu q=>T9 (it v) λx=>T9 (it u) λy=>T9 (sV op x y) λz=>Q (.int z) q) h) H
 |.R6 op a b,m,Q,H=>wE Z n F R a m (λv h=>wE Z n F R b m (λu q=>T9 (lB op v u q) λr=>Q (.bool r) q) h) H
 |.not e,m,Q,H=>wE Z n F R e m (λv h=>T9 (qL1 h v) λb=>Q (.bool (!b)) h) H
 |.and B,m,Q,H=>wW8 Z n F R B m Q H
 |.or B,m,Q,H=>wOr Z n F R B m Q H
 |.ite t a b,m,Q,H=>wT Z n F R t m (λc h=>if c=true then wE Z n F R a m Q h else wE Z n F R b m Q h) H
 |.list tg B,m,Q,H=>wEs Z n F R B m (λs h=>s.length<1000∧∀l,qD h l->Q (.ref l) (h.qQ tg l s)) H
 |.tup B,m,Q,H=>wEs Z n F R B m (λs h=>s.length<1000∧∀l,qD h l->Q (.ref l) (h.zQ l s)) H
 |.dict tg T s,m,Q,H=>wEs Z n F R s m (λs h=>∀l,qD h l->Q (.ref l) (h.xV tg l (vC (T.zip s)))) H
 |.oH tg,m,Q,H=>∀l,qD H l->Q (.ref l) (H.xD tg l [])
 |.oM,m,Q,H=>∀l,qD H l->Q (.ref l) (H.wR l [])
 |.call f B,m,Q,H=>wE Z n F R f m (λv h=>wEs Z n F R B m (λs q=>T9 (rf v) λa=>qB Z n a s q Q R) h) H
 |.oN C e k f B,m,Q,H=>wE Z n F R e m (λv h=>T9 (rf v) λa=>T9 (h.obj C a) λg=>g k=none∧wEs Z n F R B m (λs q=>qB Z n f (v::s) q Q R) h) H
 |.oR C e k B,m,Q,H=>wE Z n F R e m (λv h=>T9 (rf v) λa=>T9 (h.obj C a) λg=>T9 (g k) λU=>T9 (rf U) λf=>wEs Z n F R B m (λs q=>qB Z n f s q Q R) h) H
 |.uX tg e,m,Q,H=>wE Z n F R e m (λv h=>T9 (rf v) λa=>T9 (h.lst tg a) λs=>Q (.int s.length) h) H
 |.max2 a b,m,Q,H=>wE Z n F R a m (λv h=>wE Z n F R b m (λu q=>T9 (it v) λx=>T9 (it u) λy=>Q (.int (max x y)) q) h) H
 |.Jn tg e,m,Q,H=>wE Z n F R e m (λv h=>T9 (rf v) λa=>T9 (h.lst tg a) λs=>T9 (s.mapM it) λis=>T9 is.min? λx=>Q (.int x) h) H
 |.sortI tg e,m,Q,H=>wE Z n F R e m (λv h=>T9 (rf v) λa=>T9 (h.yT a) λl=>l.length≤1∧∀b,qD h b->Q (.ref b) (h.qQ tg b (l.map λp=>AV.int p.1))) H
 |.zO tg N t V D O,m,Q,H=>wE Z n F R D m (λv h=>eS V v h λs E=>s.length<1000000∧
   xB E (λx K A=>oS t x A λL=>xT Z n F R O L (λb q=>if b=true then wE Z n F R N L (λy I=>K (some y) I) q else K none q) A) s []
    (λG A=>∀l,qD A l->Q (.ref l) (A.qQ tg l G)) h) H
 |.eH tg t v D,m,Q,H=>wE Z n F R D m (λu h=>eS .chars u h λs E=>s.length<1000∧
   xB E (λx K A=>oS (.one t) x A λL=>T9 (L t) λP=>T9 (sr P) λk=>wE Z n F R v L (λy I=>K (some (k,y)) I) A) s []
    (λG A=>∀l,qD A l->Q (.ref l) (A.xV tg l (vC G))) h) H
 |.append tg e x,m,Q,H=>wE Z n F R e m (λv h=>T9 (rf v) λa=>T9 (h.lst tg a) λ_=>wE Z n F R x m (λu q=>T9 (q.lst tg a) λs=>s.length<1000000∧Q .none (q.qQ tg a (s++[u]))) h) H
 |.pop tg e,m,Q,H=>wE Z n F R e m (λv h=>T9 (rf v) λa=>T9 (h.lst tg a) λs=>s.length<1000000∧T9 s.getLast? λx=>Q x (h.qQ tg a s.dropLast)) H
 |.Fi tg e,m,Q,H=>wE Z n F R e m (λv h=>T9 (rf v) λa=>T9 (h.lst tg a) λs=>s.length<1000000∧T9 s.head? λx=>Q x (h.qQ tg a s.tail)) H
 |.remove tg e x,m,Q,H=>wE Z n F R e m (λv h=>T9 (rf v) λa=>T9 (h.lst tg a) λ_=>wE Z n F R x m (λu q=>T9 (q.lst tg a) λs=>T9 (rf u) λt=>T9 (q.tup t) λS=>s.length<1000000∧T9 (gF q S s) λj=>Q .none (q.qQ tg a (s.eraseIdx j))) h) H
 |.Kd tg e k d,m,Q,H=>wE Z n F R e m (λv h=>T9 (rf v) λa=>T9 (h.td tg a) λ_=>wE Z n F R k m (λu q=>wE Z n F R d m (λw I=>T9 (I.td tg a) λl=>T9 (rf u) λt=>T9 (sJ I t) λj=>Q ((pP l j).getD w) I) q) h) H
 |.dX tg,m,Q,H=>∃a ns,m 120=some (.ref a)∧lX Z a ns∧∀l,qD H l->Q (.ref l) (H.qQ tg l ((ns.take 63).map AV.int))
 |.extend tg J e x,m,Q,H=>wE Z n F R e m (λv h=>T9 (rf v) λa=>T9 (h.lst tg a) λ_=>wE Z n F R x m (λu q=>T9 (q.lst tg a) λs=>T9 (rf u) λb=>T9 (q.lst J b) λS=>S=[]∧a≠b∧s.length<1000000∧Q .none (q.qQ tg a s)) h) H
 |.rQ i,m,Q,H=>wE Z n F R i m (λu q=>T9 (sr u) λj=>T9 (zE Ka j) λx=>Q x q) H
 |.eR i,m,Q,H=>wE Z n F R i m (λu q=>T9 (it u) λj=>T9 (uC Ki j) λx=>Q x q) H
 |.gG,m,Q,H=>Q (.int 21) H
 |.sX tg t v D,m,Q,H=>wE Z n F R D m (λu h=>eS .chars u h λs E=>s.length<1000∧∀c,qD h c->
   xB E (λx K A=>T9 (A.qG t c) λ_=>T9 ((A.qU t c (some x)).qG t c) λo=>T9 o λP=>T9 (sr P) λk=>wE Z n (λj=>if j=t then some c else F j) R v (λ_=>none) (λy I=>K (some (k,y)) I) (A.qU t c (some x))) s []
    (λG A=>∀l,qD A l->Q (.ref l) (A.xV tg l (vC G))) (h.qU t c none)) H
 |.neg j,m,Q,H=>Q (.int (-j)) H
 |.mulL tg J e i,m,Q,H=>wE Z n F R e m (λv h=>wE Z n F R i m (λu q=>T9 (rf v) λa=>∃x,q.lst tg a=some [x]∧T9 (it u) λj=>0≤j∧j≤100∧∀l,qD q l->Q (.ref l) (q.qQ J l (C9 j.toNat x))) h) H
 |.Bu,m,Q,H=>Q (.int 1000000000) H
def wEs(Z:Ctx)(n:Nat)(F:Fm)(R:Value->St->Prop):Xs->M->(List AV->St->Prop)->St->Prop
 |.nil,_,Q,H=>Q [] H
 |.cons x r,m,Q,H=>wE Z n F R x m (λv a=>wEs Z n F R r m (λb c=>Q (v::b) c) a) H
def wW8(Z:Ctx)(n:Nat)(F:Fm)(R:Value->St->Prop):Xs->M->(AV->St->Prop)->St->Prop
 |.nil,_,Q,H=>False
 |.cons x .nil,m,Q,H=>wE Z n F R x m Q H
 |.cons x r,m,Q,H=>wE Z n F R x m (λv a=>T9 (qL1 a v) λb=>if b=true then wW8 Z n F R r m Q a else Q v a) H
def wOr(Z:Ctx)(n:Nat)(F:Fm)(R:Value->St->Prop):Xs->M->(AV->St->Prop)->St->Prop
 |.nil,_,Q,H=>False
 |.cons x .nil,m,Q,H=>wE Z n F R x m Q H
 |.cons x r,m,Q,H=>wE Z n F R x m (λv a=>T9 (qL1 a v) λb=>if b=true then Q v a else wOr Z n F R r m Q a) H
def wT(Z:Ctx)(n:Nat)(F:Fm)(R:Value->St->Prop):Tt->M->(Bool->St->Prop)->St->Prop
 |.not e,m,Q,H=>wT Z n F R e m (λb c=>Q (!b) c) H
 |.and es,m,Q,H=>xT Z n F R es m Q H
 |.or es,m,Q,H=>oB Z n F R es m Q H
 |.lst tg e,m,Q,H=>wE Z n F R e m (λv c=>T9 (rf v) λa=>T9 (c.lst tg a) λd=>Q (decide (d≠[])) c) H
 |.val e,m,Q,H=>wE Z n F R e m (λv c=>T9 (qL1 c v) λb=>Q b c) H
def xT(Z:Ctx)(n:Nat)(F:Fm)(R:Value->St->Prop):dW->M->(Bool->St->Prop)->St->Prop
 |.nil,_,Q,H=>Q true H
 |.cons x r,m,Q,H=>wT Z n F R x m (λb a=>if b=true then xT Z n F R r m Q a else Q false a) H
def oB(Z:Ctx)(n:Nat)(F:Fm)(R:Value->St->Prop):dW->M->(Bool->St->Prop)->St->Prop
 |.nil,_,Q,H=>Q false H
 |.cons x r,m,Q,H=>wT Z n F R x m (λb a=>if b=true then Q true a else oB Z n F R r m Q a) H
end
set_option genCtorIdx true in
inductive Fl where
 |next|brk|cont|ret (a:AV)
def fU(inv:St->Prop)(body:AV->M->(Fl->M->St->Prop)->St->Prop):List AV->M->(Fl->M->St->Prop)->St->Prop
 |[],m,Q,H=>inv H∧Q .next m H
 |v::r,m,Q,H=>inv H∧body v m (λd b c=>match d with
  |.next|.cont=>fU inv body r b Q c
  |.brk=>Q .next b c
  |.ret a=>Q (.ret a) b c) H
def Bg(c:M->(Bool->St->Prop)->St->Prop)(body:M->(Fl->M->St->Prop)->St->Prop):Nat->M->(Fl->M->St->Prop)->St->Prop
 |0,_,_,_=>False
 |n+1,m,Q,H=>c m (λb f=>if b=true then body m (λg d e=>match g with
  |.next|.cont=>Bg c body n d Q e
  |.brk=>Q .next d e
  |.ret a=>Q (.ret a) d e) f else Q .next m f) H
def Bf(F:Fm):List (Bool×Nat)->List AV->M->(M->St->Prop)->St->Prop
 |[],[],m,Q,H=>Q m H
 |(false,k)::r,v::a,m,Q,H=>Bf F r a (up m k v) Q H
 |(true,k)::r,v::a,m,Q,H=>T9 (F k) λc=>T9 (H.qG k c) λ_=>Bf F r a m Q (H.qU k c (some v))
 |_,_,_,_,_=>False
def L6(Z:Ctx)(n:Nat)(F:Fm)(R:Value->St->Prop)(t:T)(v:AV)(m:M)(Q:M->St->Prop)(H:St):Prop:=match t with
 |.N9 k=>Q (up m k v) H
 |.qG k=>T9 (F k) λc=>T9 (H.qG k c) λ_=>Q m (H.qU k c (some v))
 |.R4 C e k=>wE Z n F R e m (λu d=>T9 (rf u) λt=>T9 (d.obj C t) λf=>Q m (d.qL C t (up f k v))) H
 |.wZ tg e i=>wE Z n F R e m (λu d=>wE Z n F R i m (λw b=>T9 (rf u) λa=>T9 (b.lst tg a) λg=>T9 (it w) λj=>0≤j∧j<g.length∧Q m (b.qQ tg a (g.set j.toNat v))) d) H
 |.qA tg e i=>wE Z n F R e m (λu d=>wE Z n F R i m (λw b=>T9 (rf u) λa=>T9 (b.sd tg a) λl=>T9 (sr w) λj=>Q m (b.xV tg a (qJ9 l j v))) d) H
 |.subQ tg e i=>wE Z n F R e m (λu d=>wE Z n F R i m (λw b=>T9 (rf u) λa=>T9 (b.td tg a) λl=>T9 (rf w) λt=>T9 (sJ b t) λj=>l.length<1000∧Q m (b.xD tg a (sY l j t v))) d) H
 |.nE e i=>wE Z n F R e m (λu d=>wE Z n F R i m (λw b=>T9 (rf u) λa=>T9 (b.yT a) λl=>T9 (it w) λj=>l.length<1000∧Q m (b.wR a (Bp l j v))) d) H
 |.F4 ks=>T9 (rf v) λa=>T9 (H.tup a) λg=>g.length=ks.length∧Bf F ks g m Q H
def tK(c:Nat)(l b:List (Nat×Addr)):Prop:=if l.any (λp=>p.1=c) then b=l else∃a,b=l++[(c,a)]
noncomputable def Hq(F:Fm)(b:List Nat):Option (List (Nat×Addr)):=b.mapM λk=>(F k).map λa=>(k,a)
mutual
def wS(Z:Ctx)(n:Nat)(F:Fm)(R:Value->St->Prop):S->M->(Fl->M->St->Prop)->St->Prop
 |.bad,_,_,_=>False
 |.expr e,m,Q,H=>wE Z n F R e m (λ_ d=>Q .next m d) H
 |.R7 t e,m,Q,H=>wE Z n F R e m (λv d=>L6 Z n F R t v m (λg h=>Q .next g h) d) H
 |.aM C e k s x,m,Q,H=>wE Z n F R e m (λv d=>T9 (rf v) λt=>T9 (d.obj C t) λf=>T9 (f k) λo=>wE Z n F R x m (λu h=>T9 (h.obj C t) λB=>
   T9 (it o) λa=>T9 (it u) λb=>T9 (sV s a b) λz=>Q .next m (h.qL C t (up B k (.int z)))) d) H
 |.Fo tg e i s x,m,Q,H=>wE Z n F R e m (λv d=>wE Z n F R i m (λw h=>T9 (rf v) λt=>T9 (h.sd tg t) λl=>T9 (sr w) λj=>T9 (zE l j) λo=>wE Z n F R x m (λu A=>T9 (A.sd tg t) λr=>
   T9 (it o) λa=>T9 (it u) λb=>T9 (sV s a b) λz=>Q .next m (A.xV tg t (qJ9 r j (.int z)))) h) d) H
 |.ret e,m,Q,H=>wE Z n F R e m (λv d=>Q (.ret v) m d) H
 |.Ke,m,Q,H=>Q (.ret .none) m H
 |.ite t a b,m,Q,H=>wT Z n F R t m (λc d=>if c=true then O6 Z n F R a m Q d else O6 Z n F R b m Q d) H
 |.Jr t b,m,Q,H=>∃f,Bg (λg q p=>wT Z n F R t g q p) (λg q p=>O6 Z n F R b g q p) f m Q H
 |.yM c k D x b,m,Q,H=>wE Z n F R x m (λv d=>eS D v d λE y=>fU y (λx g q p=>if c=true then T9 (F k) λa=>T9 (p.qG k a) λ_=>O6 Z n F R b g q (p.qU k a (some x)) else O6 Z n F R b (up g k x) q p) E m Q d) H
 |.raise e,m,Q,H=>False
 |.Bk c G t,m,Q,H=>T9 (H.tab t) λl=>T9 (Hq F G) λI=>∀r f,qD H f->tK c l r->Q .next (up m c (.ref f)) ((H.vQ t r).lC c f I)
def O6(Z:Ctx)(n:Nat)(F:Fm)(R:Value->St->Prop):Ss->M->(Fl->M->St->Prop)->St->Prop
 |.nil,m,Q,H=>Q .next m H
 |.cons s r,m,Q,H=>wS Z n F R s m (λa b c=>match a with
  |.next=>O6 Z n F R r b Q c
  |a=>Q a b c) H
end
end
section
open PySem.Calls
theorem R9.thenV(x:R9 Z n lc t H (VQ Q0) R)(k:∀a H' v,Is v a->Q0 a H'->R9 Z n lc (f v) H' Q R):R9 Z n lc (t>>=f) H Q R:=
 R9.bind (x.mono (λv H' b=>qY b λa i q=>k a H' v i q) λ_ _ r=>r)
theorem R9.holding(x:R9 Z n lc t H Q R):R9 Z n lc (qD0 vs t) H Q R:=λA E g h s a b c d e f=>O4 (x A E g h s a b c d e f)
theorem R9.standAt{Q:Unit->St->Prop}(q:Q () H):R9 Z n lc (qH2 p) H Q R:=λA E h g s a b c d e f=>qY9 (e () s g H c (yL.refl _ _) q)
theorem R9.point{Q:Unit->St->Prop}(q:Q () H):R9 Z n lc point H Q R:=λA E h g s a b c d e f=>zH4 (e () s g H c (yL.refl _ _) q)
theorem R9.jQ(x:R9 Z n lc t H Q R):R9 Z n lc (PySem.standAt p>>=λ_=>t) H Q R:=R9.bind (R9.standAt x)
theorem R9.letTemp{Q:Unit->St->Prop}(q:Q () H):R9 Z n lc (letTemporaryGo e o r) H Q R:=λA E h g s a b c d e f=>wpAny_letTemporaryGo (e () s g H c (yL.refl _ _) q)
theorem oE{a:Model}{A:O3}{E:Value->S8->Prop}{keep:List Value}{Q:Unit->S8->Prop}(h:Q () s):∀l,D8 a A (qO8.go keep l) Q E s
 |[]=>S5 h
 |[_]=>S5 h
 |_::y::l=>R8 (O4 (zH4 (oE h (y::l))))
theorem R9.release{vs g:List Value}{Q:Unit->St->Prop}(q:Q () H):R9 Z n lc (qO8 vs g) H Q R:=λA E i h s a b c d e f=>oE (e () s h H c (yL.refl _ _) q) _
theorem R9.operate{vs:List Value}{Q:Value->St->Prop}(x:R9 Z n lc t H Q R):R9 Z n lc (wY9 vs t) H Q R:=by
 unfold PySem.operate;exact R9.bind (R9.holding (x.mono (λv a q=>R9.bind (R9.release (R9.pure q))) λ_ _ r=>r))
theorem R9.Ko{t:Sem α}{P:α->Prop}(x:∀(A:O3)(E:Value->S8->Prop)(a:α->S8->Prop)(κ:Kp)(s:S8),uW Z A n->Rep Z κ s H->oZ κ s.heap lc->(∀v tk,P v->a v {s with toks:=tk})->D8 (model O7 Z.w) A t a E s)
  (q:∀v,P v->Q v H):R9 Z n lc t H Q R:=λA E a κ s c e b d k f=>x A E a κ s c b d λv tk p=>k v _ κ H b.toks (yL.refl _ _) (q v p)
structure zV(eV:Env)(F:Fm)(ks:List (Str×NameKind)):Prop where
 kind:eV.scope.kind=.function
 names:eV.scope.names=ks
 globals:eV.globals=qQ3
 builtins:eV.builtins=qL2
 cells:∀k a,k<NN->(ks.lookup (nm k)=some .cell∨ks.lookup (nm k)=some .free)->F k=some a->eV.cells.lookup (nm k)=some a
 has:∀x,(ks.lookup x=some .cell∨ks.lookup x=some .free)->∃a,eV.cells.lookup x=some a
theorem iK(h:k<NN):(nm k==("__debug__":Str))=false:=by
 have:names.all (λx=>!(x==("__debug__":Str))&&!(x==("__classdict__":Str)))=true:=by kernel_rfl
 have a:k<names.length:=by rw[pR];exact h
 have:=D5.mp this names[k] (qK4 a);have e:nm k=names[k]:=by unfold nm;rw[qQ5,O8 a];rfl
 refine qX (e) ?_;simp only[Bool.and_eq_true,Bool.not_eq_true'] at this;exact this.1
theorem Lq(h:k<NN):(nm k==("__classdict__":Str))=false:=by
 have:names.all (λx=>!(x==("__debug__":Str))&&!(x==("__classdict__":Str)))=true:=by kernel_rfl
 have a:k<names.length:=by rw[pR];exact h
 have:=D5.mp this names[k] (qK4 a);have e:nm k=names[k]:=by unfold nm;rw[qQ5,O8 a];rfl
 refine qX (e) ?_;simp only[Bool.and_eq_true,Bool.not_eq_true'] at this;exact this.2
noncomputable def gH(c:Const)(a:AV):Bool:=match c with
 |.none=>decide (a=.none)
 |.bool b=>decide (a=.bool b)
 |.int i=>decide (a=.int i)
 |.str s=>(match a with|.str k=>Nat.blt k NN&&s==nm k|_=>false)
 |_=>false
theorem Hz(a:k<NN):gH (.str (nm k)) (.str k)=true:=Bool.and_eq_true_iff.mpr ⟨Nat.blt_eq.mpr a,beq_self_eq_true _⟩
noncomputable def isB(v:Value)(a:AV):Bool:=match v with
 |.none=>decide (a=.none)
 |.bool b=>decide (a=.bool b)
 |.int i _=>decide (a=.int i)
 |.ref r=>decide (a=.ref r)
 |.str s _=>gH (.str s) a
 |_=>false
theorem Aj(h:gH (.str s) a=true):∃k,a=.str k∧k<NN∧s=nm k:=by
 cases a with
 |str k=>exact zU k rfl (Nat.le_of_ble_eq_true (Bool.and_eq_true_iff.mp h).1) (beq_iff_eq.mp (Bool.and_eq_true_iff.mp h).2)
 |_=>exact Bool.noConfusion h
theorem zO0(h:isB v a=true):Is v a:=by
 cases v with
 |none=>rw[of_decide_eq_true h];exact .none
 |bool b=>rw[of_decide_eq_true h];exact .bool _
 |int i t=>rw[of_decide_eq_true h];exact .int _ _
 |ref r=>rw[of_decide_eq_true h];exact .ref _
 |str s t=>obtain⟨k,rfl,c,rfl⟩:=Aj h;exact .str _ _ c
 |_=>exact Bool.noConfusion h
theorem kF(h:gH c a=true)(q:Q a H):R9 Z n lc (eval (.Constant c kd pos) eV) H (VQ Q) R:=by
 rw[eval_Constant];refine R9.Ko (P:=λv=>Is v a) (λA E e f s g l m k=>?_) λv i=>qZ a i q;cases c with
 |none=>rw[of_decide_eq_true h] at k;exact S5 (k _ s.toks .none)
 |bool b=>rw[of_decide_eq_true h] at k;exact S5 (k _ s.toks (.bool _))
 |int i=>rw[of_decide_eq_true h] at k;exact R8 (wpAny_fresh (S5 (k _ _ (.int _ _))))
 |str s=>obtain⟨j,rfl,d,rfl⟩:=Aj h;exact qO6 (k _ _ (.str _ _ d))
 |_=>exact Bool.noConfusion h
theorem Xo(d:zV eV F ks)(e:k<NN)(g:ks.lookup (nm k)=some .local)(f:m k=some a)(q:Q a H):R9 Z n (some (eV.locals,m)) (eval (.Name (nm k) pos) eV) H (VQ Q) R:=by
 refine R9.Ko (P:=λv=>Is v a) (λA E p r s t u b h=>?_) λv i=>qZ a i q;obtain⟨w,x,j,c⟩:=b;have o:=c k e;refine qY (o a f) λv l i=>?_;exact wpAny_Name (wpAny_loadName_local d.kind (by unfold qX9;rw[d.names];exact g) j l (h v s.toks i)) (iK e)
theorem Av{k:Nat}{pos:Pos}{c:Addr}{a:AV}{lc:Option (Addr×M)}(d:zV eV F ks)(e:k<NN)(b:ks.lookup (nm k)=some .cell∨ks.lookup (nm k)=some .free)(f:F k=some c)(m:H.qG k c=some (some a))(q:Q a H):
  R9 Z n lc (eval (.Name (nm k) pos) eV) H (VQ Q) R:=by
 refine R9.Ko (P:=λv=>Is v a) (λA E u w s x g p h=>?_) λv i=>qZ a i q;refine qK (g.cells c _ (g.view.qG k c _ m)) λr _=>wV r λo y j l t=>?_;cases t with
 |@some v _ i=>
  refine wpAny_Name ?_ (iK e);refine qQ0 b (λb=>?_) λb=>?_
  ·exact wpAny_loadName_cell d.kind (by unfold qX9;rw[d.names];exact b) (d.cells k c e (.inl b) f) (qZ o j l) (h v s.toks i)
  ·exact wpAny_loadName_free d.kind (by unfold qX9;rw[d.names];exact b) (d.cells k c e (.inr b) f) (qZ o j l) (h v s.toks i) (Lq e)
noncomputable def gM(K:Frag)(k:Nat)(a:AV):Bool:=((M4 K qQ3 (nm k)).bind id).elim false λv=>isB v a
theorem sK(O:Z.Ok){k:Nat}{pos:Pos}{a:AV}{lc:Option (Addr×M)}(b:zV eV F ks)(f:k<NN)(d:ks.lookup (nm k)=some .globalImplicit)(hg:gM Z.K k a=true)(q:Q a H):
  R9 Z n lc (eval (.Name (nm k) pos) eV) H (VQ Q) R:=by
 refine R9.Ko (P:=λv=>Is v a) (λA E m p s r g j l=>?_) λv i=>qZ a i q;unfold gM at hg;replace hg:=Fa▸hg;obtain⟨v,e,h⟩:∃v,nsIn Z.K qQ3 (nm k)=some (some v)∧isB v a=true:=by
  revert hg
  cases nsIn Z.K qQ3 (nm k) with
  |none=>exactλh=>Bool.noConfusion h
  |some o=>cases o with
   |none=>exactλh=>Bool.noConfusion h
   |some v=>exactλh=>qZ v rfl h
 have c:=mg_of O.X O.G e;have G:=O.G.keeps g.old;rw[<-b.globals] at G;exact Name_function_global b.kind ((cgA (qF6 (nm k)) b.names).trans d) (loadGlobal_global G c (l v s.toks (zO0 h))) (iK f)
end
section
open PySem.Calls PySem.Spec
noncomputable def fd:AV->qM5
 |.none=>.none
 |.bool b=>.bool b
 |.int i=>.int i
 |.str k=>.str (nm k)
 |.ref _=>.none
noncomputable def wR4:AV->Bool|.ref _=>false|.str k=>Nat.blt k NN|_=>true
theorem lJ(i:Is v a)(h:rf a=none)(c:Heap):Reads c v (fd a) []:=by
 cases i with
 |none=>exact .none
 |bool b=>exact .bool b
 |int i t=>exact .int i t
 |str k t _=>exact .str _ t
 |ref a=>cases h
theorem wF7(h:k<NN):qM5.strOk (nm k)=true:=by
 have:names.all qM5.strOk=true:=by kernel_rfl
 have a:k<names.length:=qX pR h;have e:nm k=names[k]:=by unfold nm;exact qX (qQ5) (qX (O8 a) rfl)
 exact qX e (D5.mp this names[k] (qK4 a))
theorem Is.canLay(i:Is v a):(fd a).canLay0=true:=by
 cases i with
 |str k t h=>simp only[fd,qG8];exact wF7 h
 |_=>simp only[fd,qG8]
theorem Is.depth:(fd a).depth≤2:=by cases a<;>simp[fd,qK8]
theorem Au(b:k<NN)(a:k'<NN):(nm k==nm k')=decide (k=k'):=by
 rw[Bool.eq_iff_iff,beq_iff_eq,decide_eq_true_iff];exact⟨yI b a,cgA nm⟩
theorem zX4(d:Is u a)(c:Is v b)(h:U5 a b=some r):qL5 (fd a) (fd b)=r∧rf a=none∧rf b=none:=by
 cases d<;>cases c<;>first|exact uZ h|exact⟨B5 h,rfl,rfl⟩|exact⟨(Au (by assumption) (by assumption)).trans (B5 h),rfl,rfl⟩
theorem zE9(d:Is u a)(c:Is v b)(g:sU a=true)(f:sU b=true):qL5 (fd a) (fd b)=decide (a=b):=by
 cases d<;>first|exact Bool.noConfusion g|skip
 all_goals cases c<;>first|exact Bool.noConfusion f|exact(dcf (λe=>nomatch e)).symm|exact decide_eq_decide.mpr ⟨cgA _,AV.int.inj⟩|exact(Au (by assumption) (by assumption)).trans (decide_eq_decide.mpr ⟨cgA _,AV.str.inj⟩)
theorem qF5(i:zK Is xs vs):(vs.all λv=>(rf v).isNone)=true->ReadsAll hp xs (vs.map fd) []:=by
 induction i with
 |nil=>exactλ_=>.nil
 |cons i r a=>exactλh=>.cons (lJ i (E4.mp (Bool.and_eq_true_iff.mp h).1) hp) (a (Bool.and_eq_true_iff.mp h).2)
theorem hZ(h:zK Is xs vs):qA2 (vs.map fd)=true:=by
 induction h with
 |nil=>rfl
 |cons i _ a=>simp only[B6,qA2,i.canLay,a,Bool.and_self]
theorem depthAll(vs:List AV):qN4 (vs.map fd)≤2:=by
 induction vs with
 |nil=>simp[qN4]
 |cons a r b=>simp only[B6,qN4];have:=Is.depth (a:=a);lia
theorem mO(d:zK Is xs vs):zK Is ys us->vs.all sU=true->us.all sU=true->qM5.eqvAll (vs.map fd) (us.map fd)=decide (vs=us):=by
 induction d generalizing ys us with
 |nil=>intro a _ _;cases a<;>rfl
 |cons i _ f=>
  intro a b c;cases a with
  |nil=>exact(dcf (λe=>nomatch e)).symm
  |cons j r=>
   have g:=zE9 i j (Bool.and_eq_true_iff.mp b).1 (Bool.and_eq_true_iff.mp c).1;have h:=f r (Bool.and_eq_true_iff.mp b).2 (Bool.and_eq_true_iff.mp c).2;refine(congr (cgA and g) h).trans ?_;rw[<-Bool.decide_and];exact decide_eq_decide.mpr ⟨λe=>congr (cgA _ e.1) e.2,λe=>List.cons.inj e⟩
theorem lA{vs:List AV}(h:vs.all sU=true):(vs.all λv=>(rf v).isNone)=true:=
 D5.mpr λv a=>by have:=D5.mp h v a;cases v<;>first|rfl|exact Bool.noConfusion this
theorem qI9{vs:List AV}(h:vs.all qX3=true):vs.all sU=true:=
 D5.mpr λv a=>by have:=D5.mp h v a;cases v<;>first|rfl|exact Bool.noConfusion this
theorem qT8{vs:List AV}(h:(vs.all λv=>(sr v).isSome)=true):vs.all sU=true:=
 D5.mpr λv a=>by have:=D5.mp h v a;cases v<;>first|rfl|exact Bool.noConfusion this
theorem uW.u(h:uW Z A n):A.units+200<cLine:=by have:=h.units;show A.units+200<9900;lia
theorem kH(c:Rep Z κ s H)(h:H.lst t a=some vs):∃b:List Value,IsL s.heap a b∧zK Is b vs∧κ a=some (.lst t vs):=by
 refine zX ((c.cells a _ (c.view.lst t a vs h)).1) λb x y _=>?_;exact zU b x y (c.view.lst t a vs h)
theorem iL(b:Rep Z κ s H)(h:H.lst t a=some vs):vs.length<2^40:=by
 refine zX ((b.cells a _ (b.view.lst t a vs h)).1) λc x y z=>?_;exact z
theorem zY7(b:Rep Z κ s H)(h:H.tup a=some vs):vs.length<2^40:=by
 refine zX ((b.cells a _ (b.view.tup a vs h)).1) λc x y z=>?_;exact z
theorem kZ(c:Rep Z κ s H)(h:H.lst t a=some vs):∃b:List Value,s.heap.IsList a b.toArray∧zK Is b vs:=by
 refine zX ((c.cells a _ (c.view.lst t a vs h)).1) λb x y _=>?_;exact qZ b x.isList y
theorem pG(c:Rep Z κ s H)(h:H.tup a=some vs):∃b:List Value,IsTup s.heap a b.toArray∧zK Is b vs:=by
 refine zX ((c.cells a _ (c.view.tup a vs h)).1) λb x y _=>?_;exact qZ b x y
theorem Yq(b:Rep Z κ s H)(h:H.sd t a=some l):(∃kvs,s.heap.DictOf (SK Z.w) a kvs∧zK pK kvs l)∧(a==qH3)=false:=
 ⟨(b.cells a _ (b.view.sd t a l h)).1,by have:=(b.cells a _ (b.view.sd t a l h)).2.2;simp only[beq_eq_false_iff_ne,ne_eq];rintro rfl;revert this;decide⟩
theorem Lz(c:Rep Z κ s H)(h:H.td t a=some l):(∃b,s.heap.DictOfH (QK Z.w) a b∧zK Fb b l)∧(a==qH3)=false:=
 ⟨by obtain⟨b,x,y,_⟩:=(c.cells a _ (c.view.td t a l h)).1;exact qZ b x.Jk y,by have:=(c.cells a _ (c.view.td t a l h)).2.2;simp only[beq_eq_false_iff_ne,ne_eq];rintro rfl;revert this;decide⟩
theorem Js(c:Rep Z κ s H)(h:H.td t a=some l):(∃b,fO Z.w s.heap a b∧zK Fb b l)∧(a==qH3)=false:=
 ⟨by obtain⟨b,x,y,_⟩:=(c.cells a _ (c.view.td t a l h)).1;exact qZ b x y,by have:=(c.cells a _ (c.view.td t a l h)).2.2;simp only[beq_eq_false_iff_ne,ne_eq];rintro rfl;revert this;decide⟩
theorem Jt(b:Rep Z κ s H)(h:H.yT a=some l):(∃kvs,s.heap.DictOf (IK Z.w) a kvs∧zK Te kvs l)∧(a==qH3)=false:=
 ⟨(b.cells a _ (b.view.yT a l h)).1,by have:=(b.cells a _ (b.view.yT a l h)).2.2;simp only[beq_eq_false_iff_ne,ne_eq];rintro rfl;revert this;decide⟩
theorem nQ(h:hp.IsList a xs.toArray)(b:zK Is xs vs)(f:(vs.all λv=>(rf v).isNone)=true):Reads hp (.ref a) (.list (vs.map fd)) [a]:=by
 refine zX h λo e c g=>zH g λn d=>?_;exact .list e c d (by simpa using qF5 b f)
theorem nZ{a:Addr}{f:List Value}{vs:List AV}{b:Heap}(h:IsTup b a f.toArray)(g:zK Is f vs)(i:(vs.all λv=>(rf v).isNone)=true):Reads b (.ref a) (.tuple (vs.map fd)) []:=by
 refine zX h λo e c j=>zH j λn d=>?_;exact .tuple e c d (by simpa using qF5 g i)
noncomputable def mop:COp->CmpOp
 |.lt=>.Lt|.le=>.LtE|.gt=>.Gt|.ge=>.GtE|.uO=>.Eq|.tU=>.NotEq|.By=>.Is|.fD=>.IsNot|.iU _ _=>.Eq|.Ay _ _=>.NotEq|.neT=>.NotEq|.F3 _ _=>.Eq|.neD _ _=>.NotEq|.Bj _=>.NotIn|.N3 _=>.In|.N5 _=>.Eq
theorem lI(h:it a=some i):a=.int i:=match a,h with|.int _,h=>cgA AV.int (B5 h)
theorem jA(h:rf a=some i):a=.ref i:=match a,h with|.ref _,h=>cgA AV.ref (B5 h)
theorem iP(h:sr a=some i):a=.str i:=match a,h with|.str _,h=>cgA AV.str (B5 h)
theorem Is.xN(h:Is v (.int i)):∃t,v=.int i t:=by cases h;exact⟨_,rfl⟩
theorem Is.zT(h:Is v (.ref i)):v=.ref i:=by cases h;rfl
theorem Is.pF(h:Is v (.str k)):∃t,v=.str (nm k) t∧k<NN:=by cases h;exact qZ _ rfl (by assumption)
theorem Is.of_none(h:Is v .none):v=.none:=by cases h;rfl
theorem Is.of_bool(h:Is v (.bool b)):v=.bool b:=by cases h;rfl
theorem zE0(h:sJ H a=some k):H.tup a=some [.str k,.none]:=by
 refine qY (A7.mp h) λb c h=>qY (A7.mp h) λd _ h=>?_;by_cases e:b=[.str d,.none]
 ·rw[A3 e] at h;rw[c,e,B5 h]
 ·rw[D9 e] at h;exact uZ h
theorem Yz{α β:Type}{S:α->β->Prop}{a:List α}{b:β}{bs:List β}(h:zK S a (b::bs)):∃x r,a=x::r∧S x b∧zK S r bs:=by
 cases h with|cons i r=>exact xO _ _ rfl i r
theorem Ak{α β:Type}{S:α->β->Prop}{a:List α}(h:zK S a ([]:List β)):a=[]:=by cases h;rfl
theorem Lw{α β:Type}{S:α->β->Prop}{c:List α}{a b:β}(h:zK S c [a,b]):∃x y,c=[x,y]∧S x a∧S y b:=by
 refine wV (Yz h) λx r e i d=>wV (Yz d) λy k f j g=>?_;exact xO x y (qX e (qX f (qX (Ak g) rfl))) i j
theorem iG{Z:Ctx}{H:St}{κ:Kp}{s:S8}(f:Rep Z κ s H)(h:sJ H a=some k):(QK Z.w).is s.heap [some (nm k),none] a∧k<NN∧κ a=some (.tup [.str k,.none]):=by
 have g:=zE0 h;refine qY (pG f g) λq b m=>zX b λo e c l=>?_;clear b;refine zH l λn d=>?_;clear l;refine wV (Lw m) λx y b i j=>?_;subst b;refine qY i.pF λt b p=>?_;subst b;obtain rfl:=j.of_none;exact⟨⟨o,_,n,e,c,d,.cons (show qC3 (some (nm k)) (.str (nm k) t)=true from beq_self_eq_true (nm k)) (.cons rfl .nil)⟩,p,f.view.tup a _ g⟩
theorem Jb{b:List (List (Option Str)×Addr×Value)}{l:List (Nat×Addr×AV)}(h:zK Fb b l){k:Nat}(d:k<NN):
  (atKey b [some (nm k),none]=none∧pP l k=none)∨∃p a,atKey b [some (nm k),none]=some p∧pP l k=some a∧Is p.2 a:=by
 induction h with
 |nil=>exact .inl ⟨rfl,rfl⟩
 |@cons x p _ _ f r c=>
  unfold atKey pP at c⊢;simp only[qW7];by_cases q:p.1=k
  ·have:x.1=[some (nm k),none]:=by rw[f.key,q]
   simp only[this,q,decide_true,qN5];exact .inr (xO _ _ rfl rfl f.val)
  ·have:¬x.1=[some (nm k),none]:=by
    refine qX f.key ?_;intro e;simp only[qJ1,qK9,and_true] at e;exact q (yI f.lt d e)
   simp only[this,q,decide_false];exact c
theorem qX0(h:o.bind f=some r):∃a,o=some a∧f a=some r:=A7.mp h
section
variable{Z:Ctx}
theorem xG{κ:Kp}{s:S8}{d:Value->S8->Prop}{Q:AV->St->Prop}(e:Rep Z κ s H)(k:∀v c b H',Rep Z b c H'->yL κ s.heap b c.heap->VQ Q v H'->d v c)(i:Is v a)(q:Q a H)(tk:Tok):d v {s with toks:=tk}:=
 k v _ κ H e.toks (yL.refl _ _) (qZ a i q)
theorem Al(h:D8 M' A (A9 .In a b) (λv f=>∃c,v=.bool c∧Q (.bool (!c)) f) E s):D8 M' A (A9 .NotIn a b) Q E s:=by
 intro Γ p hΓ;have:=h Γ p hΓ;have g:A9 .In a b=(contains b a>>=λc=>pure (.bool c)):=rfl;have i:A9 .NotIn a b=(contains b a>>=λc=>pure (.bool (!c))):=rfl;rw[g,Sem.wp_bind'] at this;rw[i,Sem.wp_bind'];refine Sem.wp_mono _ _ _ (λc l f j=>?_) (λ_ _ _ e=>e) _ _ this;refine qY j λd k q=>?_;cases k;exact q
theorem qZ4(b:Bool):Is (.bool b) (.bool b):=.bool b
theorem Lx:∀{us:List (Nat×AV)},(us.map (·.1)).Nodup->∀{q:Nat×AV},q∈us->zE us q.1=some q.2:=by
 intro us;induction us with
 |nil=>
  intro _ _ h;cases h
 |cons x us d=>
  intro a q h;rw[yA];rw[B6,O5] at a;refine qQ0 (E3.mp h) (λb=>?_) λc=>?_
  ·subst b;exact qX (A3 rfl) rfl
  ·refine qX (D9 (λe=>a.1 (T8.mpr (qZ q c e)))) ?_;exact d a.2 c
theorem Hw:∀{vs us:List (Nat×AV)},vs.map (·.1)=us.map (·.1)->(us.map (·.1)).Nodup->(∀p∈vs,p∈us)->vs=us:=by
 intro vs;induction vs with
 |nil=>
  intro us e _ _;cases us with
  |nil=>rfl
  |cons _ _=>simp at e
 |cons p vs f=>
  intro us e b h;cases us with
  |nil=>simp at e
  |cons q us=>
   simp only[B6,qJ1] at e;rw[B6,O5] at b;have g:p=q:=by
    refine qQ0 (E3.mp (h p T3)) (λa=>?_) λa=>?_
    ·exact a
    ·exact absurd (T8.mpr (qZ p a e.1)) b.1
   subst g;congr 1
   refine f e.2 b.2 λz d=>?_;refine qQ0 (E3.mp (h z (S9 _ d))) (λc=>?_) λa=>?_
   ·subst c;exact absurd (e.2▸T8.mpr (qZ z d rfl)) b.1
   ·exact a
theorem Ap(h:qX3 a=true):∃i,a=.int i:=match a,h with|.int i,_=>⟨i,rfl⟩
theorem zK5{A:O3}{s:S8}{c:List (Str×Value)}{us:List (Nat×AV)}(n:zK pK c us)(B:(c.map (·.1)).Nodup)(z:us.all (λp=>qX3 p.2)=true):
  ∀{b:List (Str×Value)}{vs:List (Nat×AV)},zK pK b vs->(∀k∈vs.map (·.1),k∈us.map (·.1))->vs.all (λp=>qX3 p.2)=true->∃r,KeqHits A s c b r∧(r=true↔∀p∈vs,p∈us):=by
 intro b vs C;have o:=rA n B;induction C with
 |nil=>exactλ_ _=>qZ true .nil (Iff.intro (λ_ p h=>absurd h qK5) λ_=>rfl)
 |@cons L p b vs f _ D=>
  intro u v;refine qY (D (λk E=>u k (S9 _ E)) (Bool.and_eq_true_iff.mp v).2) λr F d=>qY (T8.mp (u p.1 T3)) λq g a=>?_;have w:=a▸Lx o g;refine qY (Fd n f.lt w) λy G H=>zH (Ap (D5.mp z q g)) λi l=>zH (Ap (Bool.and_eq_true_iff.mp v).1) λj m=>?_;obtain⟨t,I⟩:=(m▸f.val).xN;obtain⟨J,K⟩:=(l▸H).xN;have x:=SeqAt.EqAt.int_int (A:=A) (s:=s) j t i J;rw[<-I,<-K] at x;refine qZ ((j==i)&&r) (.hit (f.key▸G) x F) ?_;have X:(j==i)=true↔p∈us:=by
   refine beq_iff_eq.trans ⟨λe=>?_,λh=>?_⟩
   ·exact qX (show p=q from qA0 a.symm (qX m (qX l (qX e rfl)))) g
   ·have:=sj (Lx o h) w;rw[m,l] at this;exact AV.int.inj this
  exact(Bool.and_eq_true_iff.trans (and_congr X d)).trans List.forall_mem_cons.symm
theorem Ag{A:O3}{s:S8}{c a:List (Str×Value)}{vs us:List (Nat×AV)}{b:Addr}(l:s.heap.DictOf (SK Z.w) b a)(i:zK pK c vs)(d:zK pK a us)(h:(vs.all (λp=>qX3 p.2)&&us.all (λp=>qX3 p.2)&&decide (vs.map (·.1)=us.map (·.1)))=true):
  ∃r,KeqHits A s a c r∧(c.length==a.length&&r)=decide (vs=us):=by
 refine qK (Bool.and_eq_true_iff.mp h) λm n=>qK (Bool.and_eq_true_iff.mp m) λo q=>?_;have f:=of_decide_eq_true n;refine tZ l λ_ _ _ _ _ _ _ _ j=>qY (zK5 (A:=A) (s:=s) d j q i (λk t=>f▸t) o) λr u g=>?_;refine qZ r u ?_;have v:(c.length==a.length)=true:=by
  have:=cgA List.length f;rw[S6,S6] at this;rw[beq_iff_eq,i.length,d.length,this]
 rw[v,Bool.true_and,Bool.eq_iff_iff,decide_eq_true_iff];exact g.trans ⟨λh=>Hw f (rA d j) h,λe=>e▸λ_ h=>h⟩
theorem Af(vs:List AV)(d:qM5):min (qK8 (.list (vs.map fd))) d.depth≤3:=Nat.le_trans (Nat.min_le_left _ _) (by have:=depthAll vs;simp only[qK8];exact Nat.succ_le_succ this)
theorem zD3(vs:List AV)(d:qM5):min (qK8 (.tuple (vs.map fd))) d.depth≤3:=Nat.le_trans (Nat.min_le_left _ _) (by have:=depthAll vs;simp only[qK8];exact Nat.succ_le_succ this)
theorem Hx(a:AV)(d:qM5):min (fd a).depth d.depth≤3:=Nat.le_trans (Nat.min_le_left _ _) (Nat.le_trans (Is.depth (a:=a)) (by decide))
theorem uW.d{A:O3}{d:Nat}(h:uW Z A n)(a:d≤3):A.units+d<cLine:=by have:=h.u;lia
theorem uW.u0(h:uW Z A n):A.units<cLine:=by have:=h.u;lia
theorem zM7{vs us:List AV}{P:Prop}(h:Xi vs us=some r)(b:vs.length≠us.length->r=false->P)(a:vs.all sU=true->us.all sU=true->decide (vs=us)=r->P):P:=by
 unfold Xi at h;by_cases e:vs.length=us.length
 ·rw[A3 e] at h;by_cases i:(vs.all qX3&&us.all qX3)=true
  ·rw[A3 i] at h;exact a (qI9 (Bool.and_eq_true_iff.mp i).1) (qI9 (Bool.and_eq_true_iff.mp i).2) (B5 h)
  ·rw[D9 i] at h;exact uZ h
 ·rw[D9 e] at h;exact b e (B5 h).symm
theorem Nr(b:zK Is xs vs)(a:zK Is ys us)(h:vs.length≠us.length):(xs.toArray.size !=ys.toArray.size)=true:=by
 exact qX (qP3) (qX (qP3) (qX (b.length) (qX (a.length) (bne_iff_ne.mpr h))))
theorem Nt{u v:Value}{a b:AV}{β:Type}{g:Addr->Addr->Option β}{r:β}{P:Value->Value->Prop}(d:Is u a)(c:Is v b)(h:((rf a).bind λx=>(rf b).bind λy=>g x y)=some r)(k:∀x y,g x y=some r->P (.ref x) (.ref y)):P u v:=by
 refine qY (qX0 h) λx e h=>qY (qX0 h) λy f h=>?_;exact(jA e▸d).zT▸(jA f▸c).zT▸k x y h
theorem Jc{u v:Value}{a b:AV}{g:Int->Int->Bool}{r:Bool}{P:Value->Value->Prop}(d:Is u a)(c:Is v b)(h:((it a).bind λx=>(it b).bind λy=>some (g x y))=some r)(k:∀x y t t',g x y=r->P (.int x t) (.int y t')):P u v:=by
 refine qY (qX0 h) λx f h=>qY (qX0 h) λy i h=>?_;obtain⟨t,e⟩:=(lI f▸d).xN;obtain⟨t',j⟩:=(lI i▸c).xN;exact e▸j▸k x y t t' (B5 h)
theorem zN9{x y:Addr}{t u:Nat}{vs us:List AV}{r:Bool}{Q:AV->St->Prop}(m:H.lst t x=some vs)(o:H.lst u y=some us)(h:Xi vs us=some r):(Q (.bool r) H->R9 Z n lc (A9 .Eq (.ref x) (.ref y)) H (VQ Q) R)∧(Q (.bool (!r)) H->R9 Z n lc (A9 .NotEq (.ref x) (.ref y)) H (VQ Q) R):=by
 constructor
 all_goals
  intro q A E p v s i w d z j B;refine qY (kZ d m) λC k b=>qY (kZ d o) λD l c=>?_
 ·exact zM7 h (λa e=>(SeqAt.RcAt.lists_lengths k l (Nr b c a) i.u0) O7 Z.w E p (xG d j (qZ4 _) (e▸q) s.toks)) λf g e=>
   qD1 (nQ k b (lA f)) (nQ l c (lA g)) (hZ b) (hZ c) (i.d (Af ..)) (xG d j (qZ4 _) ((show qL5 (.list (vs.map fd)) (.list (us.map fd))=r from(mO b c f g).trans e)▸q) s.toks)
 ·exact zM7 h (λa e=>(qC4.lists_lengths k l (Nr b c a) i.u0) O7 Z.w E p (xG d j (qZ4 _) (by rw[e] at q;exact q) s.toks)) λf g e=>
   qK0 (nQ k b (lA f)) (nQ l c (lA g)) (hZ b) (hZ c) (i.d (Af ..)) (xG d j (qZ4 _) ((show qL5 (.list (vs.map fd)) (.list (us.map fd))=r from(mO b c f g).trans e)▸q) s.toks)
theorem zR6{x y:Addr}{o t:Nat}{vs us:List (Nat×AV)}{Q:AV->St->Prop}(b:H.sd o x=some vs)(c:H.sd t y=some us)(h:(vs.all (λp=>qX3 p.2)&&us.all (λp=>qX3 p.2)&&decide (vs.map (·.1)=us.map (·.1)))=true):
  (Q (.bool (decide (vs=us))) H->R9 Z n lc (A9 .Eq (.ref x) (.ref y)) H (VQ Q) R)∧(Q (.bool (!decide (vs=us))) H->R9 Z n lc (A9 .NotEq (.ref x) (.ref y)) H (VQ Q) R):=by
 constructor
 all_goals
  intro q A E w z s g B a C i D;refine qK (Yq a b) λd j=>qY d λF k u=>qK (Yq a c) λd l=>qY d λG f v=>qY (Ag (A:=A.in1) f u v h) λr m e=>?_;rw[<-e] at q
 ·exact keq_eq j l k f g.u0 (λ_=>m) (xG a i (qZ4 _) q s.toks)
 ·exact keq_ne j l k f g.u0 (λ_=>m) (xG a i (qZ4 _) q s.toks)
theorem hW{β:Type}{c:Prop} [Decidable c]{a b:β}(h:(if c then some a else none)=some b):c∧a=b:=by
 by_cases i:c
 ·rw[A3 i] at h;exact⟨i,B5 h⟩
 ·rw[D9 i] at h;exact uZ h
theorem Ah{a b:AV}{u v:Value}{r:Bool}{Q:AV->St->Prop}(d:Is u a)(c:Is v b)(h:U5 a b=some r):(Q (.bool r) H->R9 Z n lc (A9 .Eq u v) H (VQ Q) R)∧(Q (.bool (!r)) H->R9 Z n lc (A9 .NotEq u v) H (VQ Q) R):=by
 refine wH (zX4 d c h) λe j k=>?_;constructor
 ·exactλq A E l m s f o g p i t=>qD1 (lJ d j _) (lJ c k _) d.canLay c.canLay (f.d (Hx ..)) (xG g i (qZ4 _) (e▸q) s.toks)
 ·exactλq A E l m s f o g p i t=>qK0 (lJ d j _) (lJ c k _) d.canLay c.canLay (f.d (Hx ..)) (xG g i (qZ4 _) (e▸q) s.toks)
theorem zR3{a b:AV}{u v:Value}{Q:AV->St->Prop}(f:Is u a)(g:Is v b)(h:b=.none):(Q (.bool (decide (a=.none))) H->R9 Z n lc (A9 .Is u v) H (VQ Q) R)∧(Q (.bool (decide (a≠.none))) H->R9 Z n lc (A9 .IsNot u v) H (VQ Q) R):=by
 obtain rfl:=(h▸g:Is v .none).of_none;have e:(u==.none)=decide (a=.none):=by cases f<;>rfl
 have i:(!(u==.none))=decide (a≠.none):=by cases f<;>rfl
 exact⟨λq A E j k s l m c o d p=>is_none_gen (xG c d (qZ4 _) (e▸q) s.toks),λq A E j k s l m c o d p=>isnot_none_gen (xG c d (qZ4 _) (i▸q) s.toks)⟩
theorem wG5{a b:AV}{u v:Value}{r:Bool}{Q:AV->St->Prop}(C:Is u a)(p:Is v b)(h:lB .neT a b H=some r)(q:Q (.bool r) H):R9 Z n lc (A9 .NotEq u v) H (VQ Q) R:=by
 intro A E t J s g K c L i M;cases C with
 |none=>
  cases p with
  |none=>exact qK0 .none .none rfl rfl (g.d (Hx .none _)) (xG c i (qZ4 _) ((show(!qL5 .none .none)=r from B5 h)▸q) s.toks)
  |ref y=>
   refine qY (B8.mp h) λj k h=>qY (pG c k) λw d f=>?_;exact qC4.none_tuple d g.u0 O7 Z.w E t (xG c i (qZ4 _) (h▸q) s.toks)
  |_=>exact uZ h
 |ref x=>
  cases p with
  |none=>
   refine qY (B8.mp h) λj k h=>qY (pG c k) λw d f=>?_;exact qC4.tuple_none d g.u0 O7 Z.w E t (xG c i (qZ4 _) (h▸q) s.toks)
  |ref y=>
   refine qY (qX0 h) λj l h=>qY (qX0 h) λD m h=>qK (hW h) λF e=>qK (Bool.and_eq_true_iff.mp F) λz B=>qY (pG c l) λN d o=>qY (pG c m) λw G f=>?_;have I:(!qM5.eqvAll (j.map fd) (D.map fd))=r:=qX (mO o f (qT8 z) (qT8 B)) (qX (C6 (decide_not)) e);exact qK0 (nZ d o (lA (qT8 z))) (nZ G f (lA (qT8 B))) (hZ o) (hZ f) (g.d (zD3 ..)) (xG c i (qZ4 _) (I▸q) s.toks)
  |_=>exact uZ h
 |_=>exact uZ h
theorem wK9{a b:AV}{t:Nat}{u v:Value}{r:Bool}{Q:AV->St->Prop}(d:Is u a)(c:Is v b)(h:lB (.N5 t) a b H=some r)(q:Q (.bool r) H):R9 Z n lc (A9 .Eq u v) H (VQ Q) R:=by
 cases a with
 |str k=>
  cases b with
  |str g=>exact(Ah d c h).1 q
  |_=>exact uZ h
 |ref x=>
  cases b with
  |str g=>
   refine qY (B8.mp h) λp i h=>qY c.pF λt e _=>?_;refine qX (d.zT) (qX (e) ?_);intro A E j w s l y f z m B;refine qY (kZ f i) λC o D=>?_;exact SeqAt.RcAt.list_str _ _ o l.u0 O7 Z.w E j (xG f m (qZ4 _) (h▸q) s.toks)
  |_=>exact uZ h
 |_=>exact uZ h
theorem zO4{a b:AV}{t:Nat}{u v:Value}{r:Bool}{Q:AV->St->Prop}(j:Is u a)(i:Is v b)(h:lB (.Bj t) a b H=some r)(q:Q (.bool r) H):R9 Z n lc (A9 .NotIn u v) H (VQ Q) R:=by
 refine qY (qX0 h) λx m h=>qY (qX0 h) λk o h=>qY (qX0 h) λy w h=>qY (qX0 h) λl c h=>?_;obtain rfl:=(jA m▸j).zT;obtain rfl:=(jA w▸i).zT;intro A E M N s z O e P B S;refine wH (iG e o) λC D T=>qK (Lz e c) λF G=>qY F λU I J=>?_;refine Al (wpAny_in_heap (knd:=QK Z.w) (show A.in1.units<cLine by simp only[O3.in1_units];exact z.d (d:=1) (by decide)) C G I (qZ _ rfl (xG e B (qZ4 _) ?_ _)));obtain rfl:=B5 h;rcases Jb J D with K|L
 ·refine qK K λf g=>?_;rw[g] at q;exact qX f q
 ·refine wV L λp V f g _=>?_;rw[g] at q;exact qX f q
theorem wJ9{a b:AV}{t:Nat}{u v:Value}{r:Bool}{Q:AV->St->Prop}(f:Is v b)(h:lB (.N3 t) a b H=some r)(q:Q (.bool r) H):R9 Z n lc (A9 .In u v) H (VQ Q) R:=by
 refine qY (qX0 h) λy c h=>qY (qX0 h) λm d h=>?_;obtain rfl:=(jA c▸f).zT;refine qK (hW h) λg i=>?_;subst g;subst i;intro A E o p s w x e z j B;refine qY (kZ e d) λC k l=>?_;cases l;exact SeqInW.in_listW (λ_=>false) (λy c=>by simp at c) k (by simp only[List.any_toArray,qD2];exact xG e j (qZ4 _) q s.toks)
theorem Am(O:Z.Ok){op:COp}{a b:AV}{u v:Value}{r:Bool}{Q:AV->St->Prop}(d:Is u a)(c:Is v b)(h:lB op a b H=some r)(q:Q (.bool r) H):R9 Z n lc (A9 (mop op) u v) H (VQ Q) R:=
 match op,h with
 |.lt,h=>Jc (g:=λx y=>decide (x<y)) (P:=λu v=>R9 Z n lc (A9 .Lt u v) H (VQ Q) R) d c h λx y t l e A E m o s p w j z k B=>lt_int (xG j k (qZ4 _) (e▸q) s.toks)
 |.le,h=>Jc (g:=λx y=>decide (x≤y)) (P:=λu v=>R9 Z n lc (A9 .LtE u v) H (VQ Q) R) d c h λx y t l e A E m o s p w j z k B=>le_int (xG j k (qZ4 _) (e▸q) s.toks)
 |.gt,h=>Jc (g:=λx y=>decide (x>y)) (P:=λu v=>R9 Z n lc (A9 .Gt u v) H (VQ Q) R) d c h λx y t l e A E m o s p w j z k B=>gt_int (xG j k (qZ4 _) (e▸q) s.toks)
 |.ge,h=>Jc (g:=λx y=>decide (x≥y)) (P:=λu v=>R9 Z n lc (A9 .GtE u v) H (VQ Q) R) d c h λx y t l e A E m o s p w j z k B=>ge_int (xG j k (qZ4 _) (e▸q) s.toks)
 |.uO,h=>(Ah d c h).1 q
 |.tU,h=>by
  refine qY (B8.mp h) λK C D=>?_;subst D;exact(Ah d c C).2 q
 |.By,h=>(zR3 d c (hW h).1).1 ((hW h).2▸q)
 |.fD,h=>(zR3 d c (hW h).1).2 ((hW h).2▸q)
 |.iU s1 F,h=>Nt (P:=λu v=>R9 Z n lc (A9 .Eq u v) H (VQ Q) R) d c h λx y h=>by
  refine qY (qX0 h) λG f h=>qY (qX0 h) λI i h=>?_;exact(zN9 f i h).1 q
 |.Ay s1 F,h=>Nt (P:=λu v=>R9 Z n lc (A9 .NotEq u v) H (VQ Q) R) d c h λx y h=>by
  refine qY (qX0 h) λG f h=>qY (qX0 h) λI i h=>qY (B8.mp h) λK C D=>?_;subst D;exact(zN9 f i C).2 q
 |.neT,h=>wG5 d c h q
 |.F3 s1 F,h=>Nt (P:=λu v=>R9 Z n lc (A9 .Eq u v) H (VQ Q) R) d c h λx y h=>by
  refine qY (qX0 h) λG f h=>qY (qX0 h) λI i h=>?_;obtain⟨J,rfl⟩:=hW h;exact(zR6 f i J).1 q
 |.neD s1 F,h=>Nt (P:=λu v=>R9 Z n lc (A9 .NotEq u v) H (VQ Q) R) d c h λx y h=>by
  refine qY (qX0 h) λG f h=>qY (qX0 h) λI i h=>?_;obtain⟨J,e⟩:=hW h;exact(zR6 f i J).2 (qX (C6 (decide_not)) (e▸q))
 |.Bj t,h=>zO4 d c h q
 |.N3 t,h=>wJ9 c h q
 |.N5 t,h=>wK9 d c h q
end
theorem zF4(a:Expr)(o i:Value):∃b,subscripted a false o i=wY9 b (qO9 o i):=by
 cases a with
 |Slice l u s p=>cases s<;>exact⟨_,rfl⟩
 |_=>exact⟨_,rfl⟩
noncomputable def gN(e:Expr):Bool:=Nat.beq e.ctorIdx 20||Nat.beq e.ctorIdx 21||Nat.beq e.ctorIdx 23
theorem Nb(h:gN o=true)(attr:Str)(eV:Env)(a:Sem Value):qA3 o attr eV a=a:=by
 cases o<;>first|exact(rfl:a=a)|exact Bool.noConfusion h
theorem hY{Q:Value->St->Prop}{b a:Expr}{o i:Value}{T id:String}(f:typeLookup (.type T) "__getitem__"=pure (some (.builtin id)))(g:∀κ s,Rep Z κ s H->s.TypeIs o T)(e:R9 Z n lc (qO9 o i) H Q R):
  R9 Z n lc (qZ5 b a o i) H Q R:=by
 intro A E h κ s j l d c k m;refine zH (zF4 a o i) λp q=>?_;exact tail_any (g κ s d) f (e A E h κ s j l d c k m) q
theorem pH{Q:Value->St->Prop}{b a:Expr}{pos:Pos}(h:R9 Z n lc (eval b eV) H (λo c=>R9 Z n lc (eval a eV) c (λi d=>R9 Z n lc (qZ5 b a o i) d Q R) R) R):
  R9 Z n lc (eval (.Subscript b a pos) eV) H Q R:=by
 rw[eval_Subscript];exact R9.bind (h.mono (λo c e=>R9.bind (R9.holding (e.mono (λi d f=>R9.jQ f) λ_ _ r=>r))) λ_ _ r=>r)
theorem Jd(h:zK Is xs vs)(e:uC vs j=some x):∃v k,seqIndex? j xs.length=some k∧xs[k]?=some v∧Is v x∧(j=-1∧k=xs.length-1∧0<xs.length∨0≤j∧k=j.toNat∧k<xs.length):=by
 have c:=h.length;unfold uC at e;split at e
 ·rename_i q
  subst q;rw[qB1] at e;refine qY (h.get e) λv a b=>?_;have:vs.length-1<xs.length:=by rw[C7] at a;exact a.1
  refine Em v (vs.length-1) ?_ a b (.inl ⟨rfl,cgA (·-1) c.symm,Nat.lt_of_le_of_lt (Nat.zero_le _) this⟩);refine qX (PySem.seqIndex_neg (by decide) (by lia)) ?_;congr 1;rw[<-c];exact ar1 _
 ·split at e
  ·rename_i q
   refine qY (h.get e) λv a b=>?_;have:j.toNat<xs.length:=by rw[C7] at a;exact a.1
   refine Em v j.toNat (qT2 q (by lia)) a b (.inr ⟨q,rfl,this⟩)
  ·cases e
theorem An(O:Z.Ok){t:Nat}{c b:Expr}{o i:Value}{a:Addr}{vs:List AV}{j:Int}{x:AV}(I:Is o (.ref a))(J:Is i (.int j))(h:H.lst t a=some vs)(G:uC vs j=some x)(q:Q x H):
  R9 Z n lc (qZ5 c b o i) H (VQ Q) R:=by
 obtain rfl:=I.zT;refine zH J.xN λtk e=>?_;subst e;refine hY (T:="list") F.slot_list_getitem.lookup (λg s d=>by obtain⟨l,f,p⟩:=kZ d h;exact f.typeIs) ?_;intro A E L g s M N d P k S;refine qY (kZ d h) λl f p=>?_;have w:=iL d h;have r:=p.length;refine Jv (Jd p G) λv m U y z u=>?_;rcases u with B|C
 ·refine wH B λe K D=>?_;clear B;subst e;subst K;refine wpAny_getItem_list_neg f (by decide) (ar2 D) (by decide) (x:=v) ?_ (k v _ g H d (yL.refl _ _) (qZ x z q));have:(-1+((l.toArray.size:Nat):Int)).toNat=l.length-1:=ar1 _;refine qX this ?_;simpa using y
 ·refine wH C λu e D=>?_;clear C;subst e;refine wpAny_getItem_list f u (by lia) (x:=v) (by simpa using y) (k v _ g H d (yL.refl _ _) (qZ x z q))
theorem zC8(O:Z.Ok){c b:Expr}{o i:Value}{a:Addr}{vs:List AV}{j:Int}{x:AV}(u:Is o (.ref a))(w:Is i (.int j))(h:H.tup a=some vs)(t:uC vs j=some x)(q:Q x H):
  R9 Z n lc (qZ5 c b o i) H (VQ Q) R:=by
 obtain rfl:=u.zT;obtain⟨tk,rfl⟩:=w.xN;refine hY (T:="tuple") F.slot_tuple_getitem.lookup (λl s d=>by obtain⟨y,e,f⟩:=pG d h;exact e.typeIs) ?_;intro A E D l s G I d J k K;refine qY (pG d h) λy e f=>?_;have p:=zY7 d h;have g:=f.length;refine Jv (Jd f t) λv m z B C r=>?_;refine qH8 e ?_ ?_ (by simpa using z) (by simpa using B) (k v _ l H d (yL.refl _ _) (qZ x C q))
 ·exact r.elim (λq=>qX q.1 (by decide)) λq=>Int.le_trans (by decide) q.1
 ·exact r.elim (λq=>qX q.1 (by decide)) λq=>by have:=q.1;have:=q.2.2;rw[q.2.1] at this;lia
theorem wW1(O:Z.Ok){d b:Expr}{o i:Value}{j:Int}{x:AV}(l:Is o (.str 6))(m:Is i (.int j))(a:sgn j=some x)(q:Q x H):
  R9 Z n lc (qZ5 d b o i) H (VQ Q) R:=by
 obtain⟨tk,rfl,_⟩:=l.pF;obtain⟨p,rfl⟩:=m.xN;refine hY (T:="str") F.slot_str_getitem.lookup (λg s h=>typeIs_str s _ _) ?_;intro A E r g s B C h D k G;have t:nm 6=⟨#[97,98,99]⟩:=by kernel_rfl
 have u:nm 1=⟨#[97]⟩:=by kernel_rfl
 have w:nm 2=⟨#[98]⟩:=by kernel_rfl
 have y:nm 3=⟨#[99]⟩:=by kernel_rfl
 refine qX (t) ?_;have fin:∀f:Nat,f<NN->∀v,v=nm f->Q (.str f) H->r (.str v s.toks) {s with toks:=s.toks+1}:=by
  rintro f z v rfl q
  exact k _ _ g H h.toks (yL.refl _ _) (qZ _ (.str _ _ z) q)
 unfold sgn at a;split at a
 ·rename_i e;subst e;cases a
  exact P.getItem_str (c:=97) (by decide) (by decide) (fin _ (by decide) _ u.symm q)
 ·split at a
  ·rename_i e;subst e;cases a
   exact P.getItem_str (c:=98) (by decide) (by decide) (fin _ (by decide) _ w.symm q)
  ·split at a
   ·rename_i e;subst e;cases a
    exact P.getItem_str (c:=99) (by decide) (by decide) (fin _ (by decide) _ y.symm q)
   ·cases a
theorem Ar(O:Z.Ok){t:Nat}{c b:Expr}{o i:Value}{a:Addr}{l:List (Nat×AV)}{j:Nat}{x:AV}(w:Is o (.ref a))(y:Is i (.str j))(h:H.sd t a=some l)(u:zE l j=some x)(q:Q x H):
  R9 Z n lc (qZ5 c b o i) H (VQ Q) R:=by
 obtain rfl:=w.zT;refine qY y.pF λtk e z=>?_;subst e;refine hY (T:="dict") F.slot_dict_getitem.lookup (λp s d=>by obtain⟨⟨B,f,r⟩,_⟩:=Yq d h;exact f.typeIs) ?_;intro A E C p s D G d I k J;refine qK (Yq d h) λe _=>qY e λg f r=>?_;have o:=vZ r z;replace o:=u▸o;cases m:qU3 g (nm j) with
 |none=>rw[m] at o;cases o
 |some v=>
  replace o:=m▸o;cases o with
  |some i=>exact qF1 (knd:=SK Z.w) (qW1 O7 Z.w _ _) f.mapOf m (k v _ p H d.toks (yL.refl _ _) (qZ x i q))
theorem zL2{t:Nat}{o i:Value}{a:Addr}{l:List (Nat×AV)}{j:Nat}{x:AV}(g:Is o (.ref a))(m:Is i (.str j))(h:H.sd t a=some l)(f:zE l j=some x)(q:Q x H):
  R9 Z n lc (qO9 o i) H (VQ Q) R:=by
 obtain rfl:=g.zT;refine qY m.pF λtk b p=>?_;subst b;intro A E y r s z B e C k D;refine qK (Yq e h) λb _=>qY b λc u w=>?_;have o:=vZ w p;replace o:=f▸o;cases d:qU3 c (nm j) with
 |none=>rw[d] at o;cases o
 |some v=>
  replace o:=d▸o;cases o with
  |some i=>exact qF1 (knd:=SK Z.w) (qW1 O7 Z.w _ _) u.mapOf d (k v _ r H e.toks (yL.refl _ _) (qZ x i q))
theorem zE7(O:Z.Ok){t:Nat}{d c:Expr}{o i:Value}{a b:Addr}{l:List (Nat×Addr×AV)}{j:Nat}{x:AV}(w:Is o (.ref a))(z:Is i (.ref b))(h:H.td t a=some l)(B:sJ H b=some j)(m:pP l j=some x)(q:Q x H):
  R9 Z n lc (qZ5 d c o i) H (VQ Q) R:=by
 obtain rfl:=w.zT;obtain rfl:=z.zT;refine hY (T:="dict") F.slot_dict_getitem.lookup (λr s f=>by obtain⟨⟨C,g,u⟩,_⟩:=Lz f h;exact g.typeIs) ?_;intro A E P r s D S f U k V;refine qK (Lz f h) λG _=>qY G λC g u=>wH (iG f B) λI J W=>?_;rcases Jb u J with K|L
 ·refine qK K λ_ e=>?_;rw[m] at e;cases e
 ·refine wV L λp y M v N=>?_;rw[m] at v;cases v;refine wpAny_getItem_heap (knd:=QK Z.w) ?_ I g M (k _ _ r H f.toks (yL.refl _ _) (qZ x N q));have:=D.u;show A.in1.units<cLine;simp only[qR7];lia
theorem zA5(h:zK Te kvs l)(k:Int):Fk (qU3 kvs k) (Bl l k):=by
 induction h with
 |nil=>exact .none
 |@cons b p _ _ f r a=>
  unfold qU3 Bl at a⊢;refine qX (qW7) (qX (qW7) (qX (f.key) ?_));by_cases q:p.1=k
  ·simp only[q,decide_true];exact .some f.val
  ·simp only[q,decide_false];exact a
theorem wQ3(O:Z.Ok){c b:Expr}{o i:Value}{a:Addr}{l:List (Int×AV)}{j:Int}{x:AV}(u:Is o (.ref a))(w:Is i (.int j))(h:H.yT a=some l)(t:Bl l j=some x)(q:Q x H):
  R9 Z n lc (qZ5 c b o i) H (VQ Q) R:=by
 obtain rfl:=u.zT;refine zH w.xN λtk e=>?_;subst e;refine hY (T:="dict") F.slot_dict_getitem.lookup (λp s d=>by obtain⟨⟨y,f,r⟩,_⟩:=Jt d h;exact f.typeIs) ?_;intro A E z p s B C d D k G;refine qK (Jt d h) λe _=>qY e λg f r=>?_;have o:=zA5 r j;replace o:=t▸o;cases m:qU3 g j with
 |none=>rw[m] at o;cases o
 |some v=>
  replace o:=m▸o;cases o with
  |some i=>exact qF1 (knd:=IK Z.w) (intKind_is O7 Z.w _ _) f.mapOf m (k v _ p H d.toks (yL.refl _ _) (qZ x i q))
noncomputable def wK:List Expr->Bool
 |[]=>true
 |e::r=>!Nat.beq e.ctorIdx 22&&wK r
noncomputable def Je(eV:Env):List Expr->List (Bool×Sem Value)
 |[]=>[]
 |e::r=>(false,eval e eV)::Je eV r
theorem As(h:(!Nat.beq e.ctorIdx 22)=true):qL6 (e::r) eV=(false,eval e eV)::qL6 r eV:=by
 cases e<;>first|rfl|exact Bool.noConfusion h
theorem vL:∀{a:List Expr},wK a=true->qL6 a eV=Je eV a
 |[],_=>rfl
 |e::r,h=>qX (As (Bool.and_eq_true_iff.mp h).1) (qX (vL (Bool.and_eq_true_iff.mp h).2) rfl)
theorem uV:∀{a:List Expr},qR1 pos (Je eV a)=Je eV a
 |[]=>rfl
 |e::r=>by
  show(false,eval e eV)::qR1 pos (Je eV r)=_;exact qX uV rfl
theorem Nc:∀{a:List Expr},(Je eV a).any (·.1)=false
 |[]=>rfl
 |e::r=>by show(false||(Je eV r).any (·.1))=false;exact qX Nc rfl
theorem Na:∀{a:List Expr},(Je eV a).all (!·.1)=true
 |[]=>rfl
 |e::r=>by show(true&&(Je eV r).all (!·.1))=true;exact qX Na rfl
theorem tL:qS3 pos (qG1 [] eV)=[]:=rfl
def qU2(Z:Ctx)(H:St)(f:Value):Prop:=∀κ s,Rep Z κ s H->∃k,(k=Keeper.frame∨k=Keeper.machine∨k=Keeper.boundFrame)∧qF2 (model O7 Z.w) s.heap (keeperOf f) k
theorem qU2.K(O:Z.Ok)(h:qH1 Z.K f=true):qU2 Z H f:=λb s a=>keeps_K h s.heap (O.X.keeps a.old)
theorem qU2.builtin{id:String}:qU2 Z H (.builtin id):=λa s b=>qZ .machine (.inr (.inl rfl)) .now
theorem zN3(b:Rep Z κ s H)(h:H.fn c a=some cs):FnAtH Z.K κ s.heap a c cs∧κ a=some (.fn c cs):=⟨(b.cells a _ (b.view.fn c a cs h)).1,b.view.fn c a cs h⟩
theorem qU2.fn(h:H.fn c a=some cs):qU2 Z H (.ref a):=λg s b=>by
 refine qK (zN3 b h) λe _=>?_;obtain⟨fd,d,i,j,f,_⟩:=e;exact qZ .frame (.inl rfl) ((qF2.ld (part:=none) f).andThen .now)
theorem wG(q:Q [] H):R9 Z n lc (qU4 []) H Q R:=R9.pure q
theorem wQ{x:Sem Value}{rest:List (Bool×Sem Value)}{Q:List Value->St->Prop}(h:R9 Z n lc x H (λv a=>R9 Z n lc (qU4 rest) a (λvs b=>Q (v::vs) b) R) R):
  R9 Z n lc (qU4 ((false,x)::rest)) H Q R:=by
 unfold qU4;refine R9.bind (h.mono (λv a c=>?_) λ_ _ r=>r);exact R9.bind (R9.pure (R9.bind (R9.holding (c.mono (λvs b q=>R9.pure q) λ_ _ r=>r))))
theorem Hy(h:R9 Z n lc (qU4 (Je eV es)) H (λvs a=>Q ⟨vs,[]⟩ a) R):R9 Z n lc (evalArgs f true (Je eV es) []) H Q R:=by
 unfold evalArgs;cases es with
 |nil=>
  refine R9.bind (h.mono (λvs a q=>?_) λ_ _ r=>r);first
   |exact R9.bind (R9.pure (R9.holding (R9.bind (R9.pure (R9.bind (R9.pure (R9.pure q)))))))
   |exact R9.holding (R9.bind (R9.pure (R9.bind (R9.pure (R9.pure q)))))
 |cons e r=>
  refine R9.bind (h.mono (λvs a q=>?_) λ_ _ r=>r);first
   |exact R9.holding (R9.bind (R9.pure (R9.bind (R9.pure (R9.pure q)))))
   |exact R9.bind (R9.pure (R9.holding (R9.bind (R9.pure (R9.bind (R9.pure (R9.pure q)))))))
theorem vX{f:Value}{first:List Value}{pos:Pos}{v:List Expr}{Q:Value->St->Prop}(z:wK v=true)
  (h:R9 Z n lc (qU4 (Je eV v)) H (λvs c=>qU2 Z c f∧R9 Z n lc (call f (first++vs) []) c Q R) R):
  R9 Z n lc (zH5 pos f first (qR1 pos (qL6 v eV)) (qS3 pos (qG1 [] eV))) H Q R:=by
 refine qX (vL z) (qX (uV) (qX (tL) ?_));unfold zH5;refine R9.bind (R9.holding ((Hy (Q:=λa c=>a.kw=[]∧qU2 Z c f∧R9 Z n lc (call f (first++a.pos) []) c Q R) (h.mono (λvs c q=>⟨rfl,q⟩) λ_ _ r=>r)).mono (λa c q=>R9.jQ ?_) λ_ _ r=>r));refine wH q λe B g=>?_;have b:∀{t:Sem Value},R9 Z n lc t c Q R->R9 Z n lc (t>>=λr=>PySem.holding [r] PySem.point>>=λ_=>pure r) c Q R:=
  λC=>R9.bind (C.mono (λr y D=>R9.bind (R9.holding (R9.point (R9.pure D)))) λ_ _ x=>x)
 have marked (mk:Value):R9 Z n lc (callMarked mk f (first++a.pos) []) c Q R:=by
  intro A E j d s l m i o p u;unfold callMarked;exact Calls.wpAny_keep (g A E j d s l m i o p u)
 refine qX (Nc) (qX (e) ?_);intro A E j d s l m i o p u;refine qY (B d s i) λk w L=>?_;refine R8 (L.here ?_);rcases w with rfl|rfl|rfl<;>dsimp only
 ·simp only[qD2,Bool.or_false];split
  ·exact b g A E j d s l m i o p u
  ·exact b (marked _) A E j d s l m i o p u
 ·exact b g A E j d s l m i o p u
 ·simp only[qD2,Bool.or_false];split
  ·exact b g A E j d s l m i o p u
  ·exact b (marked _) A E j d s l m i o p u
theorem tP{o:Expr}{name:Str}{a pos:Pos}{b:List Expr}{Q:Value->St->Prop}(k:gN o=true)(l:wK b=true)(u:b.length<30)(c:(a.endLine==pos.line)=true)
  (h:R9 Z n lc (eval o eV) H (λd j=>∀m,R9 Z n lc (qV5 d name m) j (λg i=>R9 Z n lc (zH5 pos g.1 g.2 (qR1 pos (qL6 b eV)) (qS3 pos (qG1 [] eV))) i Q R) R) R):
  R9 Z n lc (eval (.Call (.Attribute o name a) b [] pos) eV) H Q R:=by
 have e:eval (.Call (.Attribute o name a) b [] pos) eV=(do
  let d<-qA3 o name eV (eval o eV)
  qH2 a.atName
  methodCall o name a pos eV d (b.length+0) (qR1 pos (qL6 b eV)) (qS3 pos (qG1 [] eV))):=rfl
 rw[e,Nb k];refine R9.bind (h.mono (λd j p=>R9.jQ ?_) λ_ _ r=>r);unfold methodCall;have q:methodCallForm (b.length+0) (qR1 pos (qL6 b eV)) (qS3 pos (qG1 [] eV))=true:=by
  refine qX (vL l) (qX (uV) (qX (tL) ?_));unfold methodCallForm;refine qX (Na) ?_;simp;omega
 refine qX (q) ?_;refine R9.bind (R9.holding (R9.mono (p _) (λg i s=>?_) λ_ _ r=>r));obtain⟨f,first⟩:=g;have t:methodCallPos true o eV a pos=pure pos:=by
  unfold methodCallPos;exact qX (A3 (by simp only[Bool.not_true,Bool.false_or];exact c)) rfl
 refine qX (t) ?_;exact R9.bind (R9.pure s)
theorem aN{t:Nat}{a:Addr}{vs:List AV}{name:Str}{id:String}{f:Sem Bool}{Q:Value×List Value->St->Prop}(b:Slot "list" name id)(c:wY4 (.builtin id)=pure (.type "method_descriptor"))(h:H.lst t a=some vs)(q:Q (.builtin id,[.ref a]) H):
  R9 Z n lc (qV5 (.ref a) name f) H Q R:=by
 intro A E i g s j l d m k o;refine zX (kH d h) λp e r u=>?_;exact getMethod_list_of b c e.isList e.noDict (k _ s g H d (yL.refl _ _) q)
theorem oA{t:Nat}{a:Addr}{l:List (Nat×Addr×AV)}{name:Str}{id:String}{i:Sem Bool}{Q:Value×List Value->St->Prop}(b:Slot "dict" name id)(c:wY4 (.builtin id)=pure (.type "method_descriptor"))(h:H.td t a=some l)(q:Q (.builtin id,[.ref a]) H):
  R9 Z n lc (qV5 (.ref a) name i) H Q R:=by
 intro A E p j s r u f v k w;refine qK (Lz f h) λm x=>qY m λy g z=>?_;refine getMethod_builtin g.typeIs PySem.F.plainAttrs_dict b c (λB e=>?_) (k _ s j H f (yL.refl _ _) q);cases e;refine gL g λo C D e d _=>?_;exact qZ o e d.2.1
theorem aR(O:Z.Ok){C k:Nat}{t f:Addr}{g:M}{r:Sem Bool}{Q:Value×List Value->St->Prop}(c:zH3 Z.K C (nm k)=true)(p:qP1 Z.K (.ref C) (nm k)=some (some (.ref f)))(j:isFn Z.K (.ref f)=true)
  (u:k<NN) (h:H.obj C t=some g) (m:g k=none) (q:Q (.ref f,[.ref t]) H):R9 Z n lc (qV5 (.ref t) (nm k) r) H Q R:=by
 intro A E K w s x L a N y P;refine tZ (mI a h) λd l b S T z B D F=>?_;subst z;refine gL (qV2 D) λe U V G W J=>?_;have o:=vZ F u;replace o:=m▸o;cases i:qU3 b (nm k) with
 |some v=>rw[i] at o;first|exact uZ o|exact Bool.noConfusion o|exact nomatch o|(obtain rfl:=B5 o)|exact(o).elim
 |none=>
  have I:InstAt s.heap t (qK7 C d) C (some e):=⟨B,rfl,rfl,G⟩;refine method_fn (O.X.keeps a.old) I (qM3 c).1 (qM3 c).2 p (beq_iff_eq.mp j) (by show(lookIn (nm k) e).map _=_;rw[J,i];rfl) (y _ s w H a (yL.refl _ _) q)
noncomputable def F5:L5->Operator
 |.add=>.Add|.sub=>.Sub|.mod=>.Mod
theorem Ni(g:Is u (.int a))(f:Is v (.int b))(h:sV op a b=some c)(q:Q (.int c) H):R9 Z n lc (qE2 (F5 op) u v) H (VQ Q) R:=by
 refine zH g.xN λt d=>?_;subst d;refine zH f.xN λm d=>?_;subst d;intro A E i j s o p l r k w;have fin:∀e,e=c->i (.int e s.toks) {s with toks:=s.toks+1}:=by
  rintro e rfl;exact k _ _ j H l.toks (yL.refl _ _) (qZ _ (.int _ _) q)
 cases op with
 |add=>cases h;exact add_int (fin _ rfl)
 |sub=>cases h;exact sub_int (fin _ rfl)
 |mod=>
  unfold sV at h;dsimp only at h;split at h
  ·rename_i x;cases h
   exact PyProof.Rows.mod_int (by lia) (fin _ (qX (Int.fmod_eq_emod_of_nonneg _ (by lia)) rfl))
  ·exact uZ h
theorem Yw(g:Is u (.int a))(f:Is v (.int b))(h:sV op a b=some c)(q:Q (.int c) H):R9 Z n lc (qB2 (F5 op) u v) H (VQ Q) R:=by
 refine zH g.xN λt d=>?_;subst d;refine zH f.xN λm d=>?_;subst d;intro A E i j s o p l r k w;have fin:∀e,e=c->i (.int e s.toks) {s with toks:=s.toks+1}:=by
  rintro e rfl;exact k _ _ j H l.toks (yL.refl _ _) ⟨_,.int _ _,q⟩
 cases op with
 |add=>cases h;exact PySem.P.iadd_int (fin _ rfl)
 |sub=>cases h;exact PySem.P.isub_int (fin _ rfl)
 |mod=>
  unfold sV at h;dsimp only at h;split at h
  ·rename_i x;cases h
   exact PyProof.Rows.imod_int (by lia) (fin _ (by rw[Int.fmod_eq_emod_of_nonneg _ (by lia)]))
  ·exact uZ h
theorem zM9(h:R9 Z n lc (eval l eV) H (λa d=>R9 Z n lc (eval r eV) d (λb c=>R9 Z n lc (qE2 (F5 op) a b) c (VQ Q) R) R) R):R9 Z n lc (eval (.BinOp l (F5 op) r pos) eV) H (VQ Q) R:=by
 rw[eval_BinOp];exact R9.bind (h.mono (λa d e=>R9.bind (R9.holding (e.mono (λb c f=>R9.jQ (R9.operate f)) λ_ _ r=>r))) λ_ _ r=>r)
theorem At(g:op≠.In∧op≠.NotIn∨True)(h:R9 Z n lc (eval l eV) H (λa d=>R9 Z n lc (markedBehindIn op r (eval r eV)) d (λb c=>R9 Z n lc (A9 op a b) c (VQ Q) R) R) R):R9 Z n lc (eval (.Compare l [op] [r] pos) eV) H (VQ Q) R:=by
 rw[eval_Compare1];exact R9.bind (h.mono (λa d e=>R9.bind (R9.holding (e.mono (λb c f=>R9.jQ (R9.operate f)) λ_ _ r=>r))) λ_ _ r=>r)
theorem lV{Q:Bool->St->Prop}(i:Is v a)(h:qL1 H a=some b)(q:Q b H):R9 Z n lc (qE3 v) H Q R:=by
 intro A E g d s l m f o k p;have c:=k b s d H f (yL.refl _ _) q;cases i with
 |none=>cases h;exact PyProof.Rows.truthy_none c
 |bool=>cases h;exact qS1 c
 |int j t=>
  cases h;have e:(j !=0)=decide (j≠0):=by by_cases z:j=0<;>simp[z]
  refine PyProof.Rows.truthy_int ?_;exact qX (e) (c)
 |_=>exact uZ h
theorem wH3{pos:Pos}{j:AV->St->Prop}(h:R9 Z n lc (eval e eV) H (VQ j) R)(k:∀a d,j a d->∃b,qL1 d a=some b∧Q (.bool (!b)) d):R9 Z n lc (eval (.UnaryOp .Not e pos) eV) H (VQ Q) R:=by
 refine R9.thenV h (λa d v i m=>R9.jQ (R9.holding ?_));obtain⟨b,o,q⟩:=k a d m;intro A E C p s t u w x y z;refine not_of (lV (Q:=λc l=>c=b∧l=d) (R:=R) i o ⟨rfl,rfl⟩ A E _ p s t u w x (λv B g l r f c=>?_) z);obtain⟨rfl,rfl⟩:=c;exact y _ B g _ r f (qZ _ (.bool _) q)
theorem zT6(i:Is v (.ref a))(h:H.lst t a=some vs)(q:Q (.int vs.length) H):R9 Z n lc (call (.builtin "len") [v] []) H (VQ Q) R:=by
 obtain rfl:=i.zT;intro A E j c s l m b o k p;refine qY (kZ b h) λd f g=>?_;have e:=g.length;have r:=iL b h;refine call_len_list f (by simp;lia) (k _ _ c H b.toks (yL.refl _ _) (qZ _ ?_ q));have:((d.toArray.size:Nat):Int)=(vs.length:Int):=by simp[e]
 exact qX (this) (.int _ _)
theorem zB7(g:Z.hd=none)(O:Z.Ok)(e:Is u (.int a))(d:Is v (.int b))(q:Q (.int (max a b)) H):R9 Z n lc (call (.builtin "max") [u,v] []) H (VQ Q) R:=by
 refine zH e.xN λt c=>?_;subst c;refine zH d.xN λm c=>?_;subst c;intro A E o h s i p j w k x;refine max_two_ints (i.hd.trans g) (λy tk l=>?_);refine qK (j.more (tk:=tk) l) λr f=>?_;refine k _ _ h H r f (qZ _ ?_ q);split
 ·exact qX (show max a b=b from Int.max_eq_right (Int.le_of_lt ‹_›)) (.int _ _)
 ·exact qX (show max a b=a from Int.max_eq_left (Int.not_lt.mp ‹_›)) (.int _ _)
theorem Ab{v x:Value}{t:Nat}{a:Addr}{vs:List AV}{y:AV}(j:Is v (.ref a))(l:Is x y)(h:H.lst t a=some vs)(w:vs.length<1000000)(q:Q .none (H.qQ t a (vs++[y]))):R9 Z n lc (call (.builtin "list.append") [v,x] []) H (VQ Q) R:=by
 obtain rfl:=j.zT;intro A E z m s B C d D k F;refine zX (kH d h) λb o g i=>zH o λc f=>?_;have e:=g.length;refine qQ9 wH9 (qZ _ f rfl) wJ0 ?_ (wM0 _ _);show D8 _ _ (updateSeq a (·.push x)>>=λ_=>ret .none) _ _ s;refine R8 ?_;refine qC5 f rfl (S5 (qZ .none rfl ?_)) (hz:=by rw[O9];simp;lia);have p:yQ Z (wM m a (.lst t (vs++[y]))) (s.heap.update a (Obj.mapSeq (·.push x))) a (.lst t (vs++[y])):=by
  refine zU (b++[x]) (yU (if(b.toArray.push x).size==b.toArray.size then c else c+1) ?_) (g.append (.cons l .nil)) (by simp;lia);refine qX (D7 _ f rfl) ?_;have:(b++[x]).toArray=b.toArray.push x:=by simp
  exact qX this rfl
 refine qK (d.upd (tk:=s.toks) i rfl ((A5 ..).extBut) p (d.view.Jl i)) λr u=>?_;exact k _ _ _ _ r u (qZ _ .none q)
theorem Ja{κ:Kp}{s:S8}{t:Nat}{a:Addr}{b:List Value}{vs:List AV}{c j:Nat}(d:Rep Z κ s H)(f:s.heap.get? a=some {cls:=.type "list",dict:=none,data:=.seq b.toArray c,slots:=#[]}) (h2:zK Is b vs) (h3:κ a=some (.lst t vs)):
  Rep Z (wM κ a (.lst t (vs.eraseIdx j))) {s with heap:=s.heap.update a (Obj.mapSeq λb=>b.eraseIdxIfInBounds j),toks:=s.toks} (H.qQ t a (vs.eraseIdx j))∧yL κ s.heap (wM κ a (.lst t (vs.eraseIdx j))) (s.heap.update a (Obj.mapSeq λb=>b.eraseIdxIfInBounds j)):=by
 have g:∀{b:List Value}{vs:List AV}(j:Nat),zK Is b vs->zK Is (b.eraseIdx j) (vs.eraseIdx j):=by
  intro b vs j h;induction h generalizing j with
  |nil=>simpa using zK.nil
  |cons a r i=>cases j with
   |zero=>simpa using r
   |succ j=>simpa using zK.cons a (i j)
 have k:yQ Z (wM κ a (.lst t (vs.eraseIdx j))) (s.heap.update a (Obj.mapSeq λb=>b.eraseIdxIfInBounds j)) a (.lst t (vs.eraseIdx j)):=by
  refine zU (b.eraseIdx j) (yU (if(b.toArray.eraseIdxIfInBounds j).size==b.toArray.size then c else c+1) ?_) (g j h2) (Nat.lt_of_le_of_lt (List.length_eraseIdx_le ..) (by obtain⟨_,_,_,z⟩:=(d.cells a _ h3).1;exact z));refine qX (D7 _ f rfl) ?_;have:b.toArray.eraseIdxIfInBounds j=(b.eraseIdx j).toArray:=by
   unfold Array.eraseIdxIfInBounds;split
   ·simp
   ·rename_i e;simp at e;rw[List.eraseIdx_of_length_le (by exact e)]
  exact qX (C6 (this)) rfl
 exact d.upd (tk:=s.toks) h3 rfl ((A5 ..).extBut) k (d.view.Jl h3)
theorem wP0(o:Is v (.ref a))(h:H.lst t a=some vs)(C:vs.length<1000000)(b:vs.getLast?=some y)(q:Q y (H.qQ t a vs.dropLast)):R9 Z n lc (call (.builtin "list.pop") [v] []) H (VQ Q) R:=by
 obtain rfl:=o.zT;intro A E D F s G I i J k K;refine zX (kH i h) λd p f u=>zH p λc g=>?_;have e:=f.length;rw[qB1] at b;refine qY (f.get b) λx w z=>?_;refine qR2 PySem.F.slot_list_pop (qZ _ g rfl) PySem.F.entry_list_pop (PySem.F.args_list_pop_1 _) (MeetsSeq.list_pop_last a d.toArray c x (by simpa[e] using w) (by rw[O9];simp;lia)) ⟨g,?_⟩;refine qK (Ja (j:=d.toArray.size-1) i g f u) λl m=>?_;have B:vs.eraseIdx (d.toArray.size-1)=vs.dropLast:=by
  have L:0<vs.length:=by
   cases vs with
   |nil=>simp at b
   |cons a r=>simp
  exact List.eraseIdx_eq_dropLast (by simp[e];lia)
 rw[B] at l m;exact k _ _ _ _ l m (qZ _ z q)
theorem wZ0(z:Is v (.ref a))(B:Is i (.int 0))(h:H.lst t a=some vs)(F:vs.length<1000000)(m:vs.head?=some y)(q:Q y (H.qQ t a vs.tail)):R9 Z n lc (call (.builtin "list.pop") [v,i] []) H (VQ Q) R:=by
 obtain rfl:=z.zT;refine zH B.xN λu d=>?_;subst d;intro A E G I s J K o L k M;refine zX (kH o h) λp d f C=>zH d λc g=>?_;have e:=f.length;rw[List.head?_eq_getElem?] at m;refine qY (f.get m) λx l D=>?_;have b:0<p.length:=by rw[C7] at l;exact l.1
 refine qR2 PySem.F.slot_list_pop (qZ _ g rfl) PySem.F.entry_list_pop (PySem.F.args_list_pop_2 _ _) (MeetsSeq.list_pop_at a p.toArray c 0 u 0 x (by decide) (qT2 (by decide) (by simp;exact b)) (by simpa using l) (by rw[O9];simp;lia)) ⟨g,?_⟩;refine qK (Ja (j:=0) o g f C) λr w=>?_;rw[List.eraseIdx_zero] at r w;exact k _ _ _ _ r w (qZ _ D q)
theorem Hj:isTrue (.Compare l [op] [r] pos) eV whole=(eval (.Compare l [op] [r] pos) eV>>=λc=>qD0 [c] (qE3 c)):=by
 rw[isTrue_Compare1,eval_Compare1];simp only[qR3]
noncomputable def dY(e:Expr):Bool:=cond (Nat.beq e.ctorIdx 3) (eK e λo _ _=>!(o==.Not)) (cond (Nat.beq e.ctorIdx 15) (oJ e λ_ os a _=>wC os λ_=>wC a λ_=>true) (!(Nat.beq e.ctorIdx 0||Nat.beq e.ctorIdx 5)))
theorem Ac(c:dY e=true)(h:R9 Z n lc (eval e eV) H (λv g=>R9 Z n lc (qE3 v) g Q R) R):R9 Z n lc (isTrue e eV (eval e eV)) H Q R:=by
 have b:(isTrue e eV (eval e eV)=do let v<-eval e eV;qH2 e.pos;qD0 [v] (qE3 v))->R9 Z n lc (isTrue e eV (eval e eV)) H Q R:=λq=>by
  exact qX (q) (R9.bind (h.mono (λv g i=>R9.jQ (R9.holding i)) λ_ _ r=>r))
 cases e with
 |UnaryOp d x a=>
  have m:d≠.Not:=λq=>by
   refine jP (Ng (show eK (.UnaryOp d x a) (λo _ _=>!(o==.Not))=true from c)) λo y p e f=>?_;injection e with e1 e2 e3
   rw[<-e1,q] at f;exact Bool.noConfusion f
  cases d<;>first|exact absurd rfl m|exact b rfl
 |BoolOp=>exact Bool.noConfusion c
 |IfExp=>exact Bool.noConfusion c
 |Compare l j k a=>
  refine tW (iJ (show oJ (.Compare l j k a) (λ_ os k _=>wC os λ_=>wC k λ_=>true)=true from c)) λz os s p e f=>?_;injection e with e1 e2 e3 e4
  refine qY (jE f) λd t u=>qY (jE u) λr w _=>?_;rw[e2,e3,t,w] at h⊢;exact qX (Hj) (R9.bind (h.mono (λv g i=>R9.holding i) λ_ _ r=>r))
 |_=>exact b rfl
theorem wH2(h:R9 Z n lc (isTrue x eV (eval x eV)) H (λb a=>Q (!b) a) R):R9 Z n lc (isTrue (.UnaryOp .Not x pos) eV whole) H Q R:=by
 rw[arm_isTrue_UnaryOp];exact R9.bind (h.mono (λb a q=>R9.pure q) λ_ _ r=>r)
theorem Hv(h:R9 Z n lc (isTrue x eV (eval x eV)) H (λb a=>if b=true then R9 Z n lc (qJ2 .And rest eV) a Q R else Q false a) R):R9 Z n lc (qJ2 .And (x::rest) eV) H Q R:=by
 refine R9.bind (h.mono (λb a q=>?_) λ_ _ r=>r);cases b
 ·exact R9.pure (by simpa using q)
 ·exact(by simpa using q:R9 Z n lc (qJ2 .And rest eV) a Q R)
theorem Bh(h:R9 Z n lc (isTrue x eV (eval x eV)) H (λb a=>if b=true then Q true a else R9 Z n lc (qJ2 .Or rest eV) a Q R) R):R9 Z n lc (qJ2 .Or (x::rest) eV) H Q R:=by
 refine R9.bind (h.mono (λb a q=>?_) λ_ _ r=>r);cases b
 ·exact(by simpa using q:R9 Z n lc (qJ2 .Or rest eV) a Q R)
 ·exact R9.pure (by simpa using q)
theorem Ji(i:Is v (.ref a))(h:H.lst t a=some vs)(q:Q (decide (vs≠[])) H):R9 Z n lc (qE3 v) H Q R:=by
 obtain rfl:=i.zT;intro A E j d s l m b o k p;refine qY (kZ b h) λf g c=>?_;have e:=c.length;have r:=iL b h;refine wpAny_truthy_list g (by simp;lia) ?_;have:(!f.toArray.isEmpty)=decide (vs≠[]):=by
  cases c<;>simp
 refine qX (this) ?_;exact k _ _ d H b.toks (yL.refl _ _) q
theorem Ad{x y:Sem Value}{rest:List (Sem Value)}{pos:Pos}{Q:Value->St->Prop}(h:R9 Z n lc x H (λv c=>R9 Z n lc (qE3 v) c (λb a=>if b=true then R9 Z n lc (qB3 pos .And (y::rest)) a Q R else Q v a) R) R):R9 Z n lc (qB3 pos .And (x::y::rest)) H Q R:=by
 refine R9.bind (h.mono (λv c q=>R9.jQ (R9.bind (R9.holding (q.mono (λb a q=>?_) λ_ _ r=>r)))) λ_ _ r=>r);cases b
 ·exact R9.pure (by simpa using q)
 ·exact(by simpa using q:R9 Z n lc (qB3 pos .And (y::rest)) a Q R)
theorem wN9(h:R9 Z n lc x H (λv c=>R9 Z n lc (qE3 v) c (λb a=>if b=true then Q v a else R9 Z n lc (qB3 pos .Or (y::rest)) a Q R) R) R):R9 Z n lc (qB3 pos .Or (x::y::rest)) H Q R:=by
 refine R9.bind (h.mono (λv c q=>R9.jQ (R9.bind (R9.holding (q.mono (λb a q=>?_) λ_ _ r=>r)))) λ_ _ r=>r);cases b
 ·exact(by simpa using q:R9 Z n lc (qB3 pos .Or (y::rest)) a Q R)
 ·exact R9.pure (by simpa using q)
theorem oO(O:Z.Ok)(i:Rep Z κ s H)(j:s.heap.objs.size≤b):qD H b:=by
 have k:=i.fresh O j;have a:∀{t:Addr}{c:Cell},κ t=some c->(t=b)=False:=λ{t c} e=>by
  simp only[eq_iff_iff,iff_false];rintro rfl;rw[k] at e;cases e
 have f:∀{α:Type}{o:Option α},o.isSome=true->∃x,o=some x:=λ{α o} h=>by cases o with|none=>cases h|some x=>exact⟨x,rfl⟩
 refine⟨λC t h=>?_,λg t h=>?_,λt h=>?_,λg t h=>?_,λg t h=>?_,λt h=>?_,λg t h=>?_,λg t h=>?_⟩<;>obtain⟨x,e⟩:=f h
 ·refine yX (i.view.obj C t x e) λd l p _=>?_;exact a p
 ·exact a (i.view.lst g t x e)
 ·exact a (i.view.tup t x e)
 ·exact a (i.view.sd g t x e)
 ·exact a (i.view.td g t x e)
 ·exact a (i.view.yT t x e)
 ·exact a (i.view.qG g t x e)
 ·exact a (i.view.fn g t x e)
theorem Bm(O:Z.Ok){tg:Nat}{a:List Value}{vs:List AV}{Q:AV->St->Prop}(i:zK Is a vs)(p:vs.length<1000000)(q:∀l,qD H l->Q (.ref l) (H.qQ tg l vs)):R9 Z n lc (wJ1 a) H (VQ Q) R:=by
 intro A E r d s t u c v k w;have e:=i.length;refine qG7 ?_ (by rw[O9];lia);have f:=oO O c (Nat.le_refl _);have g:=c.fresh O (Nat.le_refl s.heap.objs.size);have h:yQ Z (wM d s.heap.objs.size (.lst tg vs)) (s.heap.push {cls:=.type "list",data:=.seq a.toArray}) s.heap.objs.size (.lst tg vs):=zU a (yU 0 (B3 _ rfl)) i (by lia);refine qK (c.new (tk:=s.toks) O (Nat.le_refl _) (λb o e=>S7 _ e) h ((c.view.fresh g).cE (zG ..))) λj m=>?_;exact k _ _ _ _ j m (qZ _ (.ref _) (q _ f))
theorem Hu(O:Z.Ok)(i:zK Is xs vs)(m:vs.length<1000000)(q:∀l,qD H l->Q (.ref l) (H.zQ l vs)):R9 Z n lc (qM6 xs) H (VQ Q) R:=by
 intro A E p c s r t a u k v;have e:=i.length;refine wpAny_newTuple ?_ (by rw[O9];lia);have d:=oO O a (Nat.le_refl _);have f:=a.fresh O (Nat.le_refl s.heap.objs.size);have g:yQ Z (wM c s.heap.objs.size (.tup vs)) (s.heap.push {cls:=.type "tuple",data:=.seq xs.toArray}) s.heap.objs.size (.tup vs):=zU xs (zU _ (B3 _ rfl) rfl (yU 0 rfl)) i (by lia);refine qK (a.new (tk:=s.toks) O (Nat.le_refl _) (λb o e=>S7 _ e) g ((a.view.fresh f).addTup (zG ..))) λh j=>?_;exact k _ _ _ _ h j (qZ _ (.ref _) (q _ d))
theorem wQ4(a:wK es=true)(h:R9 Z n lc (qU4 (Je eV es)) H (λvs b=>R9 Z n lc (wJ1 vs) b Q R) R):R9 Z n lc (eval (.List es pos) eV) H Q R:=by
 show R9 Z n lc (PySem.standAt pos>>=λ_=>qU4 (qR1 pos (qL6 es eV))>>=λvs=>wJ1 vs) H Q R;refine qX (vL a) (qX (uV) ?_);exact R9.jQ (R9.bind h)
theorem zV8(a:wK es=true)(h:R9 Z n lc (qU4 (Je eV es)) H (λvs b=>R9 Z n lc (qM6 vs) b Q R) R):R9 Z n lc (eval (.Tuple es c pos) eV) H Q R:=by
 show R9 Z n lc (PySem.standAt pos>>=λ_=>qU4 (qR1 pos (qL6 es eV))>>=λvs=>qM6 vs) H Q R;refine qX (vL a) (qX (uV) ?_);exact R9.jQ (R9.bind h)
theorem wQ6(M:Z.hd=none){f k d:Value}{t:Nat}{a b:Addr}{l:List (Nat×Addr×AV)}{j:Nat}{x:AV}{Q:AV->St->Prop}(u:Is f (.ref a))(ik:Is k (.ref b))(e:Is d x)(h:H.td t a=some l)(v:sJ H b=some j)(q:Q ((pP l j).getD x) H):
  R9 Z n lc (call (.builtin "dict.get") [f,k,d] []) H (VQ Q) R:=by
 obtain rfl:=u.zT;obtain rfl:=ik.zT;intro A E N m s w O c P o S;refine qK (Lz c h) λz B=>qY z λC r D=>wH (iG c v) λG I T=>?_;refine call_meetsIn F.slot_dict_get r.typeIs F.entry_dict_get (F.args_dict_get_3 _ _ _) (meetsH_dict_get_default (QK Z.w) a b B d) (pS ?_ (xO _ C G r ?_))
 ·have:=w.u;show A.in1.units<cLine;simp only[qR7];lia
 ·refine qQ0 (Jb D I) (λJ=>?_) λK=>?_
  ·refine qK J λg i=>?_;refine qX g ?_;rw[i] at q;exact o _ _ m H c.toks (yL.refl _ _) (qZ _ e q)
  ·refine wV K λp y g i L=>?_;refine qX g ?_;rw[i] at q;exact o _ _ m H c.toks (yL.refl _ _) (qZ _ L q)
def rZ(L:Addr)(κ:Kp)(h:Heap)(a:Kp)(h':Heap):Prop:=(∀b o,b≠L->h.get? b=some o->κ b=none->a b=none∧∃sl,h'.get? b=some {o with slots:=sl}∧(Nd o->sl=o.slots))∧∃m,wN a h' L m
def vN(T:Prop)(L:Addr)(κ:Kp)(h:Heap)(a:Kp)(h':Heap):Prop:=∀b o,b≠L->h.get? b=some o->κ b=none->a b=none∧∃sl,h'.get? b=some {o with slots:=sl}∧((T->Nd o)->sl=o.slots)
structure Hk(Z:Ctx)(A:O3)(L:Addr)(R:Value->St->Prop):Prop where
 h0:Z.h₀.get? L=none
 hd:(∃e H,R e H)->∃e r,A.frames=some (e::r)∧e.frame=some L
theorem Hk.deep(a:mA Z κ A h)(b:Z.h₀.get? eV.locals=none)(c:eV.frame=some eV.locals):Hk Z (A.deeper eV) eV.locals R:=let ⟨outer,e,_⟩:=a;⟨b,λ_=>(nS eV outer (by show A.frames.map (eV::·)=_;exact qX e rfl) c)⟩
theorem Hk.mono(x:Hk Z A L R')(h:∀e H,R e H->R' e H):Hk Z A L R:=⟨x.h0,λa=>Wr a λe H q=>x.hd (Jj e H (h e H q))⟩
def qF(Z:Ctx)(n:Nat)(L:Addr)(m:M){α:Type}(t:Sem α)(H:St)(Q:α->M->St->Prop)(R:Value->St->Prop):Prop:=
 ∀(A:O3)(E:Value->S8->Prop)(Qc:α->S8->Prop)(κ:Kp)(s:S8),uW Z A n->mA Z κ A s.heap->Rep Z κ s H->wN κ s.heap L m->Hk Z A L R->
  (∀v s' κ' H' m',Rep Z κ' s' H'->vN (∃e H,R e H) L κ s.heap κ' s'.heap->wN κ' s'.heap L m'->Q v m' H'->Qc v s')->
  (∀e s' κ' H',Rep Z κ' s' H'->rZ L κ s.heap κ' s'.heap->R e H'->E e s')->
  D8 (model O7 Z.w) A t Qc E s
section
variable{κ κ' κ'':Kp}{h h' h'':Heap}{m m':M}{Z:Ctx}{A:O3}
variable{T T':Prop}
theorem vN.trans(x:vN T L κ h κ' h')(y:vN T L κ' h' κ'' h''):vN T L κ h κ'' h'':=λb o q e k=>by
 refine qK (x b o q e k) λc a=>qY a λm d f=>qK (y b _ q d c) λg a=>qY a λi j l=>?_;exact pS g (qZ i j (λn=>(l n).trans (f n)))
theorem vN.refl:vN T L κ h κ h:=λb o _ e k=>pS k (qZ o.slots e (λ_=>rfl))
theorem vN.le(x:vN T L κ h κ' h')(t:T->T'):vN T' L κ h κ' h':=λb o q e k=>by
 refine qK (x b o q e k) λa c=>qY c λd f g=>?_;exact pS a (qZ d f (λn=>g λz=>n (t z)))
theorem vN.at(x:vN T L κ h κ' h'){b:Addr}{o:Obj}(q:b≠L)(e:h.get? b=some o)(k:κ b=none)(n:T->Nd o):h'.get? b=some o∧κ' b=none:=by
 refine qK (x b o q e k) λc d=>qY d λg a f=>?_;rw[f n] at a;exact⟨a,c⟩
theorem vN.ex(x:vN T L κ h κ' h')(a:¬T):Er L κ h κ' h':=λb o q e k=>x.at q e k λt=>absurd t a
theorem rZ.of(x:vN T L κ h κ' h')(y:rZ L κ' h' κ'' h''):rZ L κ h κ'' h'':=⟨λb o q e k=>by
 refine qK (x b o q e k) λc a=>qY a λm d f=>qK (y.1 b _ q d c) λg a=>qY a λi j l=>?_;exact(pS g (qZ i j (λn=>(l n).trans (f λ_=>n)))),y.2⟩
theorem yL.Ae(x:yL κ h κ' h'):vN T L κ h κ' h':=λb o _ e k=>qK (x b o e k) λa c=>⟨c,o.slots,a,λ_=>rfl⟩
theorem Er.toT(x:Er L κ h κ' h'):vN T L κ h κ' h':=λb o q e k=>qK (x b o q e k) λa c=>pS c (qZ o.slots a (λ_=>rfl))
theorem rZ.on(x:rZ L κ h κ' h')(y:jO κ' h' κ'' h''):rZ L κ h κ'' h'':=⟨λb o q e k=>by
 refine qK (x.1 b o q e k) λc a=>qY a λp d f=>qK (y b _ d c) λg a=>qY a λi j m=>?_;exact(pS g (qZ i j (λn=>(m n).trans (f n)))),x.2.imp λ_ l=>l.tJ y⟩
theorem jO.Ae(x:jO κ h κ' h')(l:wN κ h L m):rZ L κ h κ' h':=⟨λb o _ e k=>x b o e k,_,l.tJ x⟩
theorem jO.toT(x:jO κ h κ' h')(t:T):vN T L κ h κ' h':=λb o _ e k=>by
 refine qK (x b o e k) λa c=>qY c λd f g=>?_;exact pS a (qZ d f (λn=>g (n t)))
theorem mA.Bn(x:mA Z κ A h)(y:vN T L κ h κ' h')(z:wN κ' h' L m'):mA Z κ' A h':=by
 obtain⟨a,e,q⟩:=x;refine⟨a,e,λl m=>?_⟩;obtain⟨k,b,n,f,i,s,j⟩:=q l m;by_cases p:b=L
 ·subst p;obtain⟨t,c,u,_⟩:=z;exact⟨k,b,c,f,u,t,j⟩
 ·refine jP (id i) λo B C g r=>qK (y b o p g s) λd v=>qY v λD w _=>?_;exact⟨k,b,n,f,tY i g w,d,j⟩
end
section
variable{Z:Ctx}{α β:Type}
theorem qF.bind(x:qF Z n L m t H (λv m' H'=>qF Z n L m' (f v) H' Q R) R):qF Z n L m (t>>=f) H Q R:=by
 intro A E z B s o p C D u k w;refine R8 (x A E _ B s o p C D u (λv F h H' m' i y d q=>?_) w);exact q A E z h F o (p.Bn y d) i d u (λv b a c j r f g l=>k v b a c j r (y.trans f) g l) (λe b a c r f l=>w e b a c r (.of y f) l)
theorem qF.pure(q:Q a m H):qF Z n L m (pure a) H Q R:=by
 intro A E e b s _ _ c d _ k _;exact S5 (k a s b H m c vN.refl d q)
theorem qF.mono(x:qF Z n L m t H Q R)(i:∀v m' H',Q v m' H'->Q' v m' H')(g:∀v H',R v H'->R' v H'):qF Z n L m t H Q' R':=by
 intro A E j l s o p r u w k y;exact x A E j l s o p r u (w.mono g) (λv h f H' m' a b c d=>k v h f H' m' a (b.le λz=>Wr z λe H q=>Jj e H (g e H q)) c (i _ _ _ d)) (λv h f H' a b c=>y v h f H' a b (g _ _ c))
theorem R9.toS(x:R9 Z n (some (L,m)) t H (λv H'=>Q v m H') R):qF Z n L m t H Q R:=by
 intro A E g h s i j l e p k o;exact x A E g h s i j l e (λv f d H' a b c=>k v f d H' m a b.Ae (wN.pT e b) c) (λv f d H' a b c=>o v f d H' a (b.Ae e) c)
theorem R9.pC(x:R9 Z n (some (L,m)) t H (λv H'=>qF Z n L m (f v) H' Q R) R):qF Z n L m (t>>=f) H Q R:=qF.bind (R9.toS x)
theorem qF.standAt(x:qF Z n L m t H Q R):qF Z n L m (PySem.standAt p>>=λ_=>t) H Q R:=R9.pC (R9.standAt x)
theorem qF.holding(x:qF Z n L m t H Q R):qF Z n L m (qD0 vs t) H Q R:=λA E h i s a b c d e f g=>O4 (x A E h i s a b c d e f g)
theorem Jo(g:zV eV F ks)(r:k<NN)(t:ks.lookup (nm k)=some .local)(i:Is v a)(q:Q () (up m k a) H):qF Z n eV.locals m (wM1 eV (nm k) v) H Q R:=by
 intro A E I J s K L u b w x M;obtain⟨h,N,l,c⟩:=b;refine wpAny_storeName_local (by unfold qX9;exact qX g.names t) l (λO f y=>?_) (qX g.kind rfl);refine gL (id l) λo B C e d _=>qK (u.Fc (tk:=s.toks+1) h w.h0 (jN o B C e d) y.extBut) λD G=>?_;refine x () _ _ _ (up m k a) D G.toT ⟨h,_,f,λj p=>?_⟩ q;unfold up;by_cases e:j=k
 ·subst e;exact qX (A3 rfl) (qX (A3 rfl) ((Fk.some i).w))
 ·exact qX (D9 e) (qX (D9 (λz=>e (yI p r z))) (c j p))
theorem Hl{k:Nat}{c:Addr}{v:Value}{a:AV}{o:Option AV}{lc:Option (Addr×M)}{Q:Unit->St->Prop}(d:zV eV F ks)(p:k<NN)(l:ks.lookup (nm k)=some .cell)(m:F k=some c)(h:H.qG k c=some o)(i:Is v a)(q:Q () (H.qU k c (some a))):
  R9 Z n lc (wM1 eV (nm k) v) H Q R:=by
 intro A E G I s J K b r t L;have e:=b.view.qG k c _ h;refine qK (b.cells c _ e) λu _=>wV u λw N x y O=>?_;refine wpAny_storeName_cell d.kind (by unfold qX9;exact qX d.names l) (d.cells k c p (.inl l) m) (qZ w x y) (λP z B=>?_);refine qY z λf g j=>qK (b.upd (tk:=s.toks) (c:=.qG k (some a)) e rfl B.extBut (xO f _ g j (.some i)) (b.view.putCel e)) λC D=>?_;exact t () _ _ _ C D q
theorem pD{k:Nat}{c:Addr}{v:Value}{a:AV}{o:Option AV}{lc:Option (Addr×M)}{Q:Unit->St->Prop}(d:zV eV F ks)(f:k<NN)(e:ks.lookup (nm k)=some .cell)(b:F k=some c)(h:H.qG k c=some o)(i:Is v a)(q:Q () (H.qU k c (some a))):
  R9 Z n lc (bindName eV (nm k) v) H Q R:=λA E g j s l m p r t u=>wpAny_bindName (Hl d f e b h i q A E g j s l m p r t u)
theorem sL(b:zV eV F ks)(c:k<NN)(d:ks.lookup (nm k)=some .local)(i:Is v a)(q:Q () (up m k a) H):qF Z n eV.locals m (bindName eV (nm k) v) H Q R:=
 λA E e f s g h j l o p r=>wpAny_bindName (Jo b c d i q A E e f s g h j l o p r)
theorem wW9{o i v:Value}{t:Nat}{a:Addr}{vs:List AV}{j:Int}{x:AV}{lc:Option (Addr×M)}{Q:Unit->St->Prop}(C:Is o (.ref a))(D:Is i (.int j))(B:Is v x)(h:H.lst t a=some vs)(u:0≤j)(w:j<vs.length)(q:Q () (H.qQ t a (vs.set j.toNat x))):
  R9 Z n lc (qP4 o i v) H Q R:=by
 obtain rfl:=C.zT;refine zH D.xN λtk d=>?_;subst d;intro A E N F s O P g S k T;refine zX (kH g h) λb d y z=>zH d λc l=>?_;have G:=iL g h;have e:=y.length;have m:s.TypeIs (.ref a) "list":=qZ _ l rfl;unfold qP4
 try with_reducible refine O4 ?_
 first|refine R8 (S5 ?_)|skip
 refine R8 (wJ2 m (by decide) ?_);refine R8 (qY0 (name:=Str.ofString "__setitem__") m wJ3
  (qQ9 wJ3 m entry_list_setitem ?_ (args_list_setitem _ _ _)))
 show D8 _ _ (zQ0.List.listSubscript? (.int j tk)>>=_) _ _ s;refine R8 (wpAny_listSubscript_int (fitsIndex_of u (by lia)) ?_);refine zH (Int.eq_ofNat_of_zero_le u) λj d=>?_;subst d;have w:j<b.toArray.size:=by simp;lia
 have p:=qJ3 w;refine R8 (R8 (wpAny_seqItemAt l rfl (S5 ?_)));refine qX (p) ?_;have f:∀{b:List Value}{vs:List AV}(j:Nat),zK Is b vs->zK Is (b.set j v) (vs.set j x):=by
  intro b vs j h;induction h generalizing j with
  |nil=>simpa using zK.nil
  |cons a r I=>cases j with
   |zero=>simpa using zK.cons B r
   |succ j=>simpa using zK.cons a (I j)
 have J:yQ Z (wM F a (.lst t (vs.set j x))) (s.heap.update a (Obj.mapSeq (·.setIfInBounds j v))) a (.lst t (vs.set j x)):=by
  refine zU (b.set j v) (yU (if(b.toArray.setIfInBounds j v).size==b.toArray.size then c else c+1) ?_) (f j y) (qX qR8 G);refine qX (D7 _ l rfl) ?_;have:(b.set j v).toArray=b.toArray.setIfInBounds j v:=by simp
  exact qX this rfl
 refine qK (g.upd (tk:=s.toks) z rfl ((A5 ..).extBut) J (g.view.Jl z)) λK L=>?_;have fin:=k () _ _ _ K L q;refine R8 (wpAny_setSeqItemAt l rfl ?_);first
  |exact R8 (S5 (S5 (qZ .none rfl (S5 fin))))
  |exact S5 ⟨.none,rfl,S5 fin⟩
theorem Aa{o i v:Value}{t:Nat}{a:Addr}{l:List (Nat×AV)}{j:Nat}{x:AV}{lc:Option (Addr×M)}{Q:Unit->St->Prop}(u:Is o (.ref a))(w:Is i (.str j))(r:Is v x)(h:H.sd t a=some l)(q:Q () (H.xV t a (qJ9 l j x))):
  R9 Z n lc (qP4 o i v) H Q R:=by
 obtain rfl:=u.zT;refine qY w.pF λtk d y=>?_;subst d;intro A E I J s K L b N k O;refine qK (Yq b h) λd _=>qY d λf g m=>?_;have p:=b.view.sd t a l h;have z:f.length≤sizeLine:=by
  refine tZ (id g) λ_ _ _ _ _ _ _ _ B=>?_;have:=lZ m B;have e:NN=267:=rfl;refine qX O9 ?_;lia
 refine zS4 (knd:=SK Z.w) (qW1 O7 Z.w _ _) g (λP C D=>?_) z;refine qK (b.upd (tk:=s.toks+1) (c:=.sd t (qJ9 l j x)) p rfl D.extBut (qZ _ C (uT m y r)) (b.view.putSd p)) λF G=>?_;exact k () _ _ _ F G q
theorem Ly(h:zK Te kvs l)(b:Is v a):zK Te (qH0 kvs k v) (Bp l k a):=by
 have d:(kvs.any λc=>decide (c.1=k))=l.any λp=>decide (p.1=k):=by
  induction h with
  |nil=>rfl
  |cons f _ e=>rw[qV4,qV4,e,f.key]
 unfold qH0 Bp;refine qX (d) ?_;split
 ·refine h.map λc p f=>?_;refine qX (f.key) ?_;by_cases q:p.1=k
  ·exact qX (A3 q) (qX (A3 q) (⟨rfl,b⟩))
  ·exact qX (D9 q) (qX (D9 q) (f))
 ·exact h.append (.cons ⟨rfl,b⟩ .nil)
theorem zT7{o i v:Value}{a:Addr}{l:List (Int×AV)}{j:Int}{x:AV}{lc:Option (Addr×M)}{Q:Unit->St->Prop}(p:Is o (.ref a))(r:Is i (.int j))(m:Is v x)(h:H.yT a=some l)(C:l.length<1000)(q:Q () (H.wR a (Bp l j x))):
  R9 Z n lc (qP4 o i v) H Q R:=by
 obtain rfl:=p.zT;refine zH r.xN λtk d=>?_;subst d;intro A E D F s G I b J k K;refine qK (Jt b h) λd _=>qY d λt u f=>?_;have g:=b.view.yT a l h;have e:=f.length;refine zS4 (knd:=IK Z.w) (intKind_is O7 Z.w _ _) u (λL w y=>?_) (by rw[O9];lia);refine qK (b.upd (tk:=s.toks+1) (c:=.yT (Bp l j x)) g rfl y.extBut (qZ _ w (Ly f m)) (b.view.putIdc g)) λz B=>?_;exact k () _ _ _ z B q
end
theorem Ai{κ:Kp}{b:List (List (Option Str)×Addr×Value)}(h:zK Fb b l)(c:k<NN)(d:Is v a):zK Fb (qD3 b [some (nm k),none] t v) (sY l k t a):=by
 have g:((b.find? λx=>decide (x.1=[some (nm k),none])).map (·.2)).isSome=l.any λp=>decide (p.1=k):=by
  induction h with
  |nil=>rfl
  |@cons x p _ _ f _ i=>
   refine qX (qV4) (qX (qW7) ?_);by_cases q:p.1=k
   ·have:x.1=[some (nm k),none]:=by rw[f.key,q]
    simp[this,q]
   ·have:¬x.1=[some (nm k),none]:=by
     refine qX (f.key) ?_;intro e;simp only[qJ1,qK9,and_true] at e;exact q (yI f.lt c e)
    simp only[this,q,decide_false,Bool.false_or];exact i
 unfold qD3 sY atKey;refine qX (g) ?_;split
 ·refine h.map λx p f=>?_;unfold putAt;by_cases q:p.1=k
  ·have:x.1=[some (nm k),none]:=by rw[f.key,q]
   refine qX (A3 this) (qX (A3 q) ?_);exact⟨f.lt,f.key,f.at_,d⟩
  ·have:¬x.1=[some (nm k),none]:=by
    refine qX (f.key) ?_;intro e;simp only[qJ1,qK9,and_true] at e;exact q (yI f.lt c e)
   exact qX (D9 this) (qX (D9 q) f)
 ·exact h.append (.cons ⟨c,rfl,rfl,d⟩ .nil)
theorem eT{K:Type} [DecidableEq K](b:List (K×Addr×Value))(k:K)(a:Addr)(v:Value):(qD3 b k a v).length=if(atKey b k).isSome then b.length else b.length+1:=by
 unfold qD3;split<;>simp
theorem wP8{w:qQ2}{A:O3}{E:Value->S8->Prop}{s:S8}{d a:Addr}{m:List (List (Option Str)×Addr×Value)}{k:List (Option Str)}{v:Value}{Q:Unit->S8->Prop}(z:(QK w).room A)(b:(QK w).is s.heap k a)(G:fO w s.heap d m)
  (B:∀h',fO w h' d (qD3 m k a v)->qG0 d s.heap h'->Q () {s with heap:=h',toks:=s.toks+(QK w).draws k})
  (F:m.length≤sizeLine):D8 (model O7 w) A (zQ1 d (.ref a) v) Q E s:=by
 refine Tr G λo H h C c t i n=>?_;unfold zQ1
 try with_reducible refine O4 ?_
 refine R8 ((QK w).pyHash z b ?_);unfold dictSetHashed
 try with_reducible refine O4 ?_
 refine R8 (wpAny_dictFind_heap (s:={s with toks:=s.toks+(QK w).draws k}) z b h c t i n ?_ ?_)
 ·intro q;have g:=atKey_none_of_get q;have r:=eT m k a v;rw[g,D9 (by simp)] at r;refine R8 (qE0 (wpAny_updateDictKeys (hz:=by have e:=qH5 t;lia) (s:={s with toks:=s.toks+(QK w).draws k}) h c (B _ ⟨_,_,D7 _ h (Obj.isFreed_of_dict (Obj.data_mapDictKeys c _)),
   C.mapDictKeys _,(qX r (Obj.data_mapDictKeys c _)),?_,?_,?_⟩ (A5 ..))))
  ·rw[zH6 g];simp[t,wY3]
  ·rw[zH6 g];intro x f;refine qQ0 (A4.mp f) (λf=>?_) λf=>?_
   ·exact(QK w).keeps (i x f) h c (A5 ..)
   ·simp only[B7] at f;subst f;exact(QK w).keeps b h c (A5 ..)
  ·rw[zH6 g,C8,qZ0];refine⟨n,by simp,?_⟩;intro x f y u;simp only[B6,qD4,B7] at u;subst u;exactλe=>not_mem_keys_of_get q (e▸f)
 ·intro j p D;have g:=atKey_of_get n D;have r:=eT m k a v;rw[g,A3 (by simp)] at r;refine R8 (qE0 (R8 (wpAny_updateDict (s:={s with toks:=s.toks+(QK w).draws k}) h c (zH4 (B _ ⟨_,_,D7 _ h (Obj.isFreed_of_dict (Obj.data_mapDict c _)),
   C.mapDict _,(qX r (Obj.data_mapDict c _)),?_,?_,?_⟩ (A5 ..))))))
  ·rw[zH7 g];have:=modify_map_putAt (wY3 (QK w)) (λe:qA9=>{e with val:=v}) k v (λ_ _=>rfl) n D;rw[<-t] at this;obtain⟨l⟩:=H;simpa using this
  ·rw[zH7 g];intro x f;refine qY (T8.mp f) λy u I=>?_;subst I;unfold putAt;split<;>exact(QK w).keeps (i y u) h c (A5 ..)
  ·rw[zH7 g,keys_map_putAt];exact n
theorem Br{w:qQ2}{A:O3}{E:Value->S8->Prop}{s:S8}{d a:Addr}{f:List (List (Option Str)×Addr×Value)}{k:List (Option Str)}{v:Value}{Q:Unit->S8->Prop}(j:(QK w).room A.in1)(b:(QK w).is s.heap k a)(i:fO w s.heap d f)
  (l:∀h',fO w h' d (qD3 f k a v)->qG0 d s.heap h'->Q () {s with heap:=h',toks:=s.toks+(QK w).draws k})
  (e:f.length≤sizeLine):D8 (model O7 w) A (qP4 (.ref d) (.ref a) v) Q E s:=by
 have c:=i.Jk.typeIs;unfold qP4
 try with_reducible refine O4 ?_
 refine R8 (wJ2 c (by decide) ?_);refine R8 (qY0 (name:=Str.ofString "__setitem__") c wJ4
  (qQ9 wJ4 c entry_dict_setitem ?_ (args_dict_setitem _ _ _)))
 refine R8 (zZ3 c ?_);show D8 _ _ (zQ1 d (.ref a) v>>=_) _ _ s;exact R8 (wP8 j b i (λh' g h=>S5 (qZ .none rfl (S5 (l h' g h)))) e)
abbrev qM:Value->St->Prop:=λ_ _=>False
theorem zT3{R:Value->St->Prop}{o i v:Value}{t:Nat}{a b:Addr}{l:List (Nat×Addr×AV)}{j:Nat}{x:AV}{Q:Unit->St->Prop}(D:Is o (.ref a))(F:Is i (.ref b))(C:Is v x)(h:H.td t a=some l)(G:sJ H b=some j)(U:l.length<1000)(q:Q () (H.xD t a (sY l j b x))):
  R9 Z n lc (qP4 o i v) H Q R:=by
 obtain rfl:=D.zT;obtain rfl:=F.zT;intro A E V κ s I W m X J Y;refine qK (Js m h) λk h3=>qY k λxs K z=>?_;clear k;refine wH (iG m G) λL M B=>?_;have r:=m.view.td t a l h;refine qK (m.cells a _ r) λk _=>zX k λ_ _ _ d=>?_;clear k;have e:=z.length;refine Br ?_ L K (λh' N O=>?_) (by rw[O9];lia)
 ·have:=I.u;show A.in1.units<cLine;simp only[qR7];lia
 ·have f:∀p∈sY l j b x,wM κ a (.td t (sY l j b x)) p.2.1=some (.tup [.str p.1,.none]):=by
   have u:∀{y:Addr}{vs},κ y=some (.tup vs)->y≠a:=by rintro y vs e rfl;rw[r] at e;cases e
   intro p g;unfold sY at g;split at g
   ·refine qY (T8.mp g) λP w k=>?_;subst k;have:=d P w;split
    ·exact qX (zM (u this)) (this)
    ·exact qX (zM (u this)) (this)
   ·refine qQ0 (A4.mp g) (λg=>?_) λg=>?_
    ·have:=d p g;exact qX (zM (u this)) (this)
    ·obtain rfl:=B7.mp g;exact qX (zM (u B)) (B)
  refine qK (m.upd (tk:=s.toks+(QK Z.w).draws [some (nm j),none]) (c:=.td t (sY l j b x)) r rfl O.extBut (zU _ N (Ai (κ:=κ) z M C) f) (m.view.putTd r)) λS T=>?_;exact J () _ _ _ S T q
noncomputable def lU(e:Expr):Bool:=!(Nat.beq e.ctorIdx 8||Nat.beq e.ctorIdx 9||Nat.beq e.ctorIdx 10)
theorem Lj(h:lU e=true)(t:Option Expr)(a:Nat)(eV:Env):qF3 e t a eV=pure false:=by
 cases e<;>first|exact(rfl:(pure false:Sem Bool)=pure false)|exact Bool.noConfusion h
noncomputable def lK(t v:Expr):Bool:=cond (Nat.beq t.ctorIdx 23) (lU v) (cond (Nat.beq t.ctorIdx 20||Nat.beq t.ctorIdx 21) true (cond (Nat.beq t.ctorIdx 25) (!Nat.beq v.ctorIdx 25) false))
theorem nW(a:qF3 v (some t) pos.line eV=pure false)(b:swappedStores [t] v eV=pure none)(c:(qE4 [t] eV).map (·.2)=[qY4 t eV]):exec (.Assign [t] v pos) eV=(qH2 pos>>=λ_=>eval v eV>>=λx=>qY4 t eV x>>=λ_=>pure .next):=by
 rw[exec_Assign_arm,show swapsWithSole [t] v pos.line eV=pure false from a,b,c];rfl
theorem tG(e:∀a b d p,qF3 (.ListComp a b d p) (some t) line eV=pure false)(g:∀a b d p,qF3 (.SetComp a b d p) (some t) line eV=pure false)(f:∀a b c d p,qF3 (.DictComp a b c d p) (some t) line eV=pure false):qF3 v (some t) line eV=pure false:=by
 cases v<;>first|exact(rfl:(pure false:Sem Bool)=pure false)|exact e _ _ _ _|exact g _ _ _ _|exact f _ _ _ _ _
theorem zB2(h:(!Nat.beq v.ctorIdx 25)=true):swappedStores [.Tuple es c p] v eV=pure none:=by
 cases v<;>first|exact(rfl:(pure none:Sem (Option (List Str)))=pure none)|exact Bool.noConfusion h
theorem Ao(h:lK t v=true)(pos:Pos)(eV:Env):exec (.Assign [t] v pos) eV=(qH2 pos>>=λ_=>eval v eV>>=λx=>qY4 t eV x>>=λ_=>pure .next):=by
 cases t with
 |Name=>exact nW (Lj h _ _ _) rfl rfl
 |Attribute=>exact nW (tG (λ_ _ _ _=>rfl) (λ_ _ _ _=>rfl) λ_ _ _ _ _=>rfl) rfl rfl
 |Subscript=>exact nW (tG (λ_ _ _ _=>rfl) (λ_ _ _ _=>rfl) λ_ _ _ _ _=>rfl) rfl rfl
 |Tuple=>exact nW (tG (λ_ _ _ _=>rfl) (λ_ _ _ _=>rfl) λ_ _ _ _ _=>rfl) (zB2 h) rfl
 |_=>exact Bool.noConfusion h
theorem zU4(c:eV.kindOf x=some .cell):exec (.Assign [.Name x p] v pos) eV=(qH2 pos>>=λ_=>eval v eV>>=λy=>qY4 (.Name x p) eV y>>=λ_=>pure .next):=by
 have b:∀(a:Scope)(q:Pos),(pure (eV.blockKind==.function&&eV.kindOf x==some .local&&p.line==q.line&&!(a.names.any λy=>y.1==x&&(y.2==.local||y.2==.cell))):Sem Bool)=pure false:=λa q=>by
  rw[c,show((some NameKind.cell:Option NameKind)==some .local)=false from rfl,Bool.and_false,Bool.false_and,Bool.false_and]
 exact nW (tG (λ_ _ a q=>b a q) (λ_ _ a q=>b a q) λ_ _ _ a q=>b a q) rfl rfl
theorem zT4(b:eV.kindOf x=some .cell)(h:R9 Z n (some (L,m)) (eval v eV) H (λy a=>qF Z n L m (qY4 (.Name x p) eV y) a (λ_ m' H'=>Q .next m' H') qM) qM):qF Z n L m (exec (.Assign [.Name x p] v pos) eV) H Q qM:=by
 refine qX (zU4 b) ?_;exact qF.standAt (R9.pC (h.mono (λx a g=>qF.bind (g.mono (λ_ m' H' q=>qF.pure q) λ_ _ r=>r)) λ_ _ r=>r))
theorem Hp(b:lU e=true)(c:eV.scope.kind=.function)(h:R9 Z n (some (L,m)) (eval e eV) H (λ_ a=>Q .next m a) R):qF Z n L m (exec (.Expr e pos) eV) H Q R:=by
 refine qX (exec_Expr eV e pos (by unfold interactive;exact qX c rfl) (Lj b _ _ _)) ?_;refine qF.standAt (qF.bind (R9.toS (h.mono (λv a q=>?_) λ_ _ r=>r)));intro A E i d s j l f g o k p;exact wpAny_dropValue (k _ s d a m f vN.refl g q)
theorem zM6(b:lK t v=true)(h:R9 Z n (some (L,m)) (eval v eV) H (λx a=>qF Z n L m (qY4 t eV x) a (λ_ m' H'=>Q .next m' H') R) R):qF Z n L m (exec (.Assign [t] v pos) eV) H Q R:=by
 rw[Ao b];exact qF.standAt (R9.pC (h.mono (λx a g=>qF.bind (g.mono (λ_ m' H' q=>qF.pure q) λ_ _ r=>r)) λ_ _ r=>r))
theorem Iq(h:R9 Z n (some (L,m)) (eval e eV) H (λv a=>Q (.ret v) m a) R):qF Z n L m (exec (.Return (some e) pos) eV) H Q R:=by
 rw[exec_Return_some];exact qF.standAt (R9.pC (h.mono (λv a q=>qF.pure q) λ_ _ r=>r))
theorem zB6(h:Q (.ret .none) m H):qF Z n L m (exec (.Return none pos) eV) H Q R:=by
 rw[exec_Return_none];exact qF.standAt (qF.pure h)
theorem wK1(h:R9 Z n (some (L,m)) (isTrue t eV (eval t eV)) H (λc a=>if c=true then qF Z n L m (qQ8 b eV) a Q R else qF Z n L m (qQ8 o eV) a Q R) R):qF Z n L m (exec (.If t b o pos) eV) H Q R:=by
 rw[exec_If];refine qF.standAt (R9.pC (h.mono (λc a g=>?_) λ_ _ r=>r));cases c<;>simpa using g
theorem zN5(h:Q .next m H):qF Z n L m (qQ8 [] eV) H Q R:=by
 rw[qB4];exact qF.pure h
theorem yK{R:Value->St->Prop}{st:Stmt}{Q:Flow->M->St->Prop}(h:qF Z n L m (exec st eV) H (λf m' H'=>match f with|.next=>qF Z n L m' (qQ8 r eV) H' Q R|f=>Q f m' H') R):qF Z n L m (qQ8 (st::r) eV) H Q R:=by
 rw[execs_cons];refine qF.bind (h.mono (λf m' H' g=>?_) λ_ _ r=>r);cases f with
 |next=>exact g
 |_=>exact qF.pure g
theorem wW4{o v:Expr}{attr:Str}{a pos:Pos}{op:Operator}{Q:Flow->M->St->Prop}
  (h:R9 Z n (some (L,m)) (eval o eV) H (λc i=>R9 Z n (some (L,m)) (qN0 c attr true) i (λb j=>R9 Z n (some (L,m)) (eval v eV) j (λx d=>R9 Z n (some (L,m)) (qB2 op b x) d (λy f=>R9 Z n (some (L,m)) (qO7 c attr y) f (λ_ g=>Q .next m g) qM) qM) qM) qM) qM):
  qF Z n L m (exec (.AugAssign (.Attribute o attr a) op v pos) eV) H Q qM:=by
 have e:exec (.AugAssign (.Attribute o attr a) op v pos) eV=(PySem.standAt pos>>=λ_=>eval o eV>>=λc=>(PySem.holding [c] (PySem.standAt a.atName>>=λ_=>qN0 c attr true>>=λb=>PySem.holding [b] (eval v eV)>>=λx=>PySem.standAt pos>>=λ_=>wY9 [b,x] (qB2 op b x)))>>=λnew=>
  PySem.standAt a.atName>>=λ_=>PySem.holding [new,c] (qO7 c attr new)>>=λ_=>qO8 [new,c] []>>=λ_=>pure .next):=rfl
 refine qX (e) ?_;refine qF.standAt (R9.pC (h.mono (λc i k=>?_) λ_ _ r=>r));refine R9.pC (R9.holding (R9.jQ (R9.bind (k.mono (λb j l=>R9.bind (R9.holding (l.mono (λx d p=>R9.jQ (R9.operate (p.mono (λy f s=>?_) λ_ _ r=>r))) λ_ _ r=>r))) λ_ _ r=>r))));exact qF.standAt (R9.pC (R9.holding (s.mono (λ_ g q=>R9.toS (R9.bind (R9.release (R9.pure q)))) λ_ _ r=>r)))
theorem Bs(hi:∀l u s p,i≠.Slice l u s p):augStore i ov iv y=(PySem.holding [y,ov,iv] (qP4 ov iv y)>>=λ_=>qO8 [y,ov,iv] []>>=λ_=>pure .next):=by
 cases i<;>first|rfl|exact absurd rfl (hi _ _ _ _)
theorem wQ9{o i v:Expr}{a pos:Pos}{op:Operator}{Q:Flow->M->St->Prop}
  (h:R9 Z n (some (L,m)) (eval o eV) H (λc w=>R9 Z n (some (L,m)) (eval i eV) w (λd f=>R9 Z n (some (L,m)) (qO9 c d) f (λb z=>R9 Z n (some (L,m)) (eval v eV) z (λx j=>R9 Z n (some (L,m)) (qB2 op b x) j (λy k=>R9 Z n (some (L,m)) (qP4 c d y) k (λ_ t=>Q .next m t) qM) qM) qM) qM) qM) qM)
  (hi:∀l u s p,i≠.Slice l u s p):
  qF Z n L m (exec (.AugAssign (.Subscript o i a) op v pos) eV) H Q qM:=by
 have e:exec (.AugAssign (.Subscript o i a) op v pos) eV=(PySem.standAt pos>>=λ_=>eval o eV>>=λc=>PySem.holding [c] (eval i eV)>>=λd=>(PySem.holding [c,d] (PySem.standAt a>>=λ_=>qO9 c d>>=λb=>PySem.holding [b] (eval v eV)>>=λx=>PySem.standAt pos>>=λ_=>wY9 [b,x] (qB2 op b x)))>>=λnew=>
  PySem.standAt a>>=λ_=>augStore i c d new):=rfl
 refine qX (e) ?_;refine qF.standAt (R9.pC (h.mono (λc w A=>R9.pC (R9.holding (A.mono (λd f g=>?_) λ_ _ r=>r))) λ_ _ r=>r));refine R9.pC (R9.holding (R9.jQ (R9.bind (g.mono (λb z B=>R9.bind (R9.holding (B.mono (λx j C=>R9.jQ (R9.operate (C.mono (λy k D=>?_) λ_ _ r=>r))) λ_ _ r=>r))) λ_ _ r=>r))));refine qX (Bs hi) ?_;exact qF.standAt (R9.pC (R9.holding (D.mono (λ_ t q=>R9.toS (R9.bind (R9.release (R9.pure q)))) λ_ _ r=>r)))
theorem Wd(o i:Expr)(pos:Pos)(eV:Env)(v:Value):∃w:Value->Value->List Value,qY4 (.Subscript o i pos) eV v=(PySem.holding [v] (eval o eV)>>=λa=>PySem.holding [v,a] (eval i eV)>>=λb=>PySem.standAt pos>>=λ_=>PySem.holding [v,a,b] (qP4 a b v)>>=λ_=>qO8 (w a b) []):=
 ⟨_,rfl⟩
theorem Iz(h:R9 Z n (some (L,m)) (eval o eV) H (λa b=>R9 Z n (some (L,m)) (qO7 a attr v) b (λ_ c=>Q () m c) qM) qM):qF Z n L m (qY4 (.Attribute o attr pos) eV v) H Q qM:=by
 exact R9.toS (R9.bind (R9.holding (h.mono (λa b d=>R9.jQ (R9.bind (R9.holding (d.mono (λ_ c q=>R9.release q) λ_ _ r=>r)))) λ_ _ r=>r)))
theorem No(h:R9 Z n (some (L,m)) (eval o eV) H (λd f=>R9 Z n (some (L,m)) (eval i eV) f (λc a=>R9 Z n (some (L,m)) (qP4 d c v) a (λ_ g=>Q () m g) qM) qM) qM):qF Z n L m (qY4 (.Subscript o i pos) eV v) H Q qM:=by
 refine zH (Wd o i pos eV v) λw e=>?_;refine qX e ?_;exact R9.toS (R9.bind (R9.holding (h.mono (λd f j=>R9.bind (R9.holding (j.mono (λc a b=>R9.jQ (R9.bind (R9.holding (b.mono (λ_ g q=>R9.release q) λ_ _ r=>r)))) λ_ _ r=>r))) λ_ _ r=>r)))
theorem kW(h:qF Z n L m (bindName eV x v) H Q qM):qF Z n L m (qY4 (.Name x pos) eV v) H Q qM:=by
 rw[PySem.assign_Name];exact qF.standAt h
structure Wk(Z:Ctx)(I:Addr)(inv:St->Prop)(vs:List AV)(P:Nat->Heap->Prop):Prop where
 frame:∀i h h',P i h->(∀o,h.get? I=some o->h'.get? I=some o)->P i h'
 live:∀i h,P i h->∃o,h.get? I=some o
 plain:∀i h,P i h->∃o T,h.get? I=some o∧o.cls=.type T∧["enumerate","zip","dict_itemiterator","dict_reverseitemiterator","odict_iterator","itertools.zip_longest","itertools.pairwise"].contains T=false
 self:∀(A:O3)(E:Value->S8->Prop)(s:S8)(i:Nat)(Q:Value->S8->Prop),A.handled=Z.hd->P i s.heap->Q (.ref I) s->D8 (model O7 Z.w) A (wY5 (.ref I)) Q E s
 uD:∀i h q,P i h->¬h.CodeRec (.ref I) q
 nd:∀i h,P i h->∀o,h.get? I=some o->Nd o
 item:∀(A:O3)(E:Value->S8->Prop)(κ:Kp)(s:S8)(H:St)(i:Nat)(v:AV)(Q:Option Value->S8->Prop),A.handled=Z.hd->Rep Z κ s H->inv H->κ I=none->P i s.heap->vs[i]?=some v->
  (∀x h' tk,Is x v->P (i+1) h'->(∀b o,b≠I->s.heap.get? b=some o->h'.get? b=some o)->Q (some x) {s with heap:=h',toks:=tk})->D8 (model O7 Z.w) A (qR4 (.ref I)) Q E s
 done:∀(A:O3)(E:Value->S8->Prop)(κ:Kp)(s:S8)(H:St)(Q:Option Value->S8->Prop),A.handled=Z.hd->Rep Z κ s H->inv H->κ I=none->P vs.length s.heap->
  (∀h' tk,(∀b o,b≠I->s.heap.get? b=some o->h'.get? b=some o)->Q none {s with heap:=h',toks:=tk})->D8 (model O7 Z.w) A (qR4 (.ref I)) Q E s
theorem hJ{h:Heap}{o:Obj}(e:h.get? I=some o)(d:o.data=.fields vs)(f:∀q t,vs[1]?≠some (.str q t)):∀q,¬h.CodeRec (.ref I) q:=by
 intro q g;refine Tb g λc l i t j a b k=>?_;cases j;rw[e] at a;cases a;rw[d] at b;cases b;exact f _ _ k
theorem Lv{h:Heap}{o:Obj}(e:h.get? I=some o)(d:o.data=.fields vs):∀a,h.get? I=some a->Nd a:=λa b c f q=>by
 obtain rfl:=sj e b;rw[d] at q;cases q
theorem Wk.lst(hz:Z.hd=none){I a:Addr}{tg:Nat}{vs:List AV}(j:a≠I):Wk Z I (λH'=>H'.lst tg a=some vs) vs (λi h=>h.IsListIter I a i) where
 frame:=λi h n g k=>qY g λo e r=>qZ o (k o e) r
 live:=λi h g=>qY g λo e r=>yU o e
 plain:=λi h g=>zX g λo e c d=>xO o _ e c (by decide)
 self:=λA E s i Q _ l G=>wpAny_pyIter_listiter l G
 uD:=λi h q g=>zX g λo e c d=>hJ e d (by simp) q
 nd:=λi h g=>zX g λo e c d=>Lv e d
 item:=λA E J s H i v Q t u w K l L k=>by
  refine qY (kZ u w) λm y z=>qY (z.get L) λx B M=>?_;have C:i<m.toArray.size:=by rw[C7] at B;simpa using B.1
  refine(Walks.list (t.trans hz) I a j m.toArray).item i s Q E C ⟨l,y⟩ λF n tk p st f=>k F n tk ?_ st.1 λb o D e=>f b o (by simpa using D) e;have:F=x:=by simpa[B] using p.symm
  exact qX (this) (M)
 done:=λA E J s H Q t u w K l k=>by
  refine qY (kZ u w) λm y z=>?_;refine(Walks.list (t.trans hz) I a j m.toArray).done s Q E ⟨?_,y⟩ λn tk f=>k n tk λb o D e=>f b o (by simpa using D) e;have:m.toArray.size=vs.length:=by simpa using z.length
  exact qX (this) (l)
theorem Wk.dZ(hz:Z.hd=none){I:Addr}{j:Int}:Wk Z I (λ_=>True) (lY j) (λi h=>qC0 h I (0+(i:Nat)*1) ((j.toNat:Int)-(i:Nat)) 1) where
 frame:=λi h d hP k=>k _ hP
 live:=λi h hP=>yU _ hP
 plain:=λi h hP=>xO _ _ hP rfl (by decide)
 self:=λA E s i Q _ hP m=>zQ2 hP m
 uD:=λi h q hP=>hJ hP rfl (by simp[qZ2]) q
 nd:=λi h hP=>Lv hP rfl
 item:=λA E n s H i v Q g r u w hP a k=>by
  unfold lY at a;rw[D4] at a;have c:i<j.toNat:=by
   cases e:(B4 j.toNat)[i]? with
   |none=>rw[e] at a;cases a
   |some y=>rw[C7] at e;simpa using e.1
  rw[qJ6 c] at a;cases a;refine(Walks.range (g.trans hz) I 0 1 j.toNat).item i s Q E c hP λx d tk p st f=>k x d tk ?_ st λb o l e=>f b o (by simpa using l) e;refine zH p λt z=>?_;clear p;subst z;have:(0+(i:Int)*1)=(i:Int):=by lia
  exact qX (this) (.int _ _)
 done:=λA E n s H Q g r u w hP k=>by
  have e:(lY j).length=j.toNat:=by simp[lY]
  replace hP:=e▸hP;exact(Walks.range (g.trans hz) I 0 1 j.toNat).done s Q E hP λd tk f=>k d tk λb o l e=>f b o (by simpa using l) e
noncomputable def Hg:Str:=⟨#[97,98,99]⟩
noncomputable def zE5:List AV:=[.str 1,.str 2,.str 3]
theorem wW3{i c:Nat}{v:AV}(hv:zE5[i]?=some v)(hc:Hg.cps[i]?=some c)(u:Tok):Is (.str ⟨#[c]⟩ u) v:=by
 have ea:nm 1=⟨#[97]⟩:=by kernel_rfl
 have eb:nm 2=⟨#[98]⟩:=by kernel_rfl
 have ec:nm 3=⟨#[99]⟩:=by kernel_rfl
 have hlt:=(C7.mp hv).1
 match i,hlt with
 |0,_=>
  have e1:c=97:=by cases hc;rfl
  have e2:v=.str 1:=by cases hv;rfl
  subst e1 e2;exact qX (C6 (ea)) (.str _ _ (Nat.le_of_ble_eq_true rfl))
 |1,_=>
  have e1:c=98:=by cases hc;rfl
  have e2:v=.str 2:=by cases hv;rfl
  subst e1 e2;exact qX (C6 (eb)) (.str _ _ (Nat.le_of_ble_eq_true rfl))
 |2,_=>
  have e1:c=99:=by cases hc;rfl
  have e2:v=.str 3:=by cases hv;rfl
  subst e1 e2;exact qX (C6 (ec)) (.str _ _ (Nat.le_of_ble_eq_true rfl))
theorem Wk.chars(hz:Z.hd=none){I:Addr}:Wk Z I (λ_=>True) zE5 (λi h=>h.IsStrIter I "str_ascii_iterator" Hg t i) where
 frame:=λi h j a k=>qY a λo e r=>qZ o (k o e) r
 live:=λi h a=>qY a λo e r=>yU o e
 plain:=λi h a=>zX a λo e c d=>xO o _ e c (by decide)
 self:=λA E s i Q _ g x=>wpAny_pyIter_striter_ascii g x
 uD:=λi h q a=>zX a λo e c d=>hJ e d (by intro q t z;cases z) q
 nd:=λi h a=>zX a λo e c d=>Lv e d
 item:=λA E y s H i v Q l B C D g w k=>by
  have m:=(C7.mp w).1;refine(Walks.strAscii (l.trans hz) I Hg t).item i s Q E m g λF j tk p st f=>k F j tk ?_ st λb o n e=>f b o (by simpa using n) e;refine yX p λc u G J=>?_;clear p;subst J;exact wW3 w G u
 done:=λA E y s H Q l B C D g k=>(Walks.strAscii (l.trans hz) I Hg t).done s Q E g λj tk f=>k j tk λb o n e=>f b o (by simpa using n) e
def dJ(κ:Kp)(h:Heap)(I:Addr):Prop:=∀o,h.get? I=some o->κ I≠none
theorem dJ.pT(x:dJ κ' h' I)(f:yL κ h κ' h'):dJ κ h I:=λo e k=>qK (f I o e k) λa b=>x o a b
def Pit(Z:Ctx)(n:Nat)(lc:Option (Addr×M))(v:Value)(H:St)(Q:List AV->(St->Prop)->St->Prop):Prop:=
 ∀(A:O3)(E:Value->S8->Prop)(Qc:Value->S8->Prop)(κ:Kp)(s:S8),uW Z A n->mA Z κ A s.heap->Rep Z κ s H->oZ κ s.heap lc->
  (∀I s' κ' H' vs inv P,Rep Z κ' s' H'->yL κ s.heap κ' s'.heap->dJ κ s.heap I->κ' I=none->Z.h₀.get? I=none->Wk Z I inv vs P->P 0 s'.heap->Q vs inv H'->Qc (.ref I) s')->D8 (model O7 Z.w) A (wY5 v) Qc E s
def kX(Z:Ctx)(n:Nat)(lc:Option (Addr×M))(t:Sem Value)(H:St)(Q:List AV->(St->Prop)->St->Prop):Prop:=
 ∀(A:O3)(E:Value->S8->Prop)(Qc:Value->S8->Prop)(κ:Kp)(s:S8),uW Z A n->mA Z κ A s.heap->Rep Z κ s H->oZ κ s.heap lc->
  (∀I s' κ' H' vs inv P,Rep Z κ' s' H'->yL κ s.heap κ' s'.heap->dJ κ s.heap I->κ' I=none->Z.h₀.get? I=none->Wk Z I inv vs P->P 0 s'.heap->Q vs inv H'->Qc (.ref I) s')->D8 (model O7 Z.w) A t (λx a=>D8 (model O7 Z.w) A (wY5 x) Qc E a) E s
theorem kX.of(h:R9 Z n lc t H (λv o=>Pit Z n lc v o Q) qM):kX Z n lc t H Q:=by
 intro A E u x s j l y m k;refine h A E _ x s j l y m (λv z c J r b g=>?_) (λ_ _ _ _ _ _ q=>q.elim);exact g A E u c z j (l.pT b) r (m.pT b) λI d a e B f P C i D F G w p q=>k I d a e B f P C (b.trans i) (D.pT b) F G w p q
theorem zI6(hz:Z.hd=none)(O:Z.Ok)(i:Is v (.ref a))(h:H.lst tg a=some vs)(q:Q vs (λH'=>H'.lst tg a=some vs) H):Pit Z n lc v H Q:=by
 obtain rfl:=i.zT;intro A E p r s t u c w k;refine qY (kZ c h) λx d y=>jL (c.free O (Nat.le_refl s.heap.objs.size)) λf g j _=>?_;refine wpAny_pyIter_list d ?_;refine qK (c.more (tk:=s.toks) (h':=s.heap.push {cls:=.type "list_iterator",data:=.fields #[.ref a,.int 0 0]}) (λb o e=>S7 _ e)) λl m=>?_;refine k _ _ _ _ vs _ _ l m (λo e=>by rw[f] at e;cases e) g j (Wk.lst hz (a:=a) ?_) (zU _ (B3 _ rfl) rfl rfl) q
 rintro rfl
 refine qY d λo e _=>?_;clear d;rw[f] at e;cases e
theorem Iw(hz:Z.hd=none)(O:Z.Ok)(i:Is v (.str 6))(q:Q zE5 (λ_=>True) H):Pit Z n lc v H Q:=by
 refine qY i.pF λt c _=>?_;subst c;have d:nm 6=Hg:=by kernel_rfl
 refine qX (d) ?_;intro A E p r s u w a x k;refine jL (a.free O (Nat.le_refl s.heap.objs.size)) λf g h _=>?_;refine wpAny_pyIter_strU ?_;have j:strIterType Hg="str_ascii_iterator":=by kernel_rfl
 refine qX (j) ?_;refine qK (a.more (tk:=s.toks) (h':=s.heap.push {cls:=.type "str_ascii_iterator",data:=.fields #[.str Hg t,.int 0 0]}) (λb o e=>S7 _ e)) λl m=>?_;exact k _ _ _ _ _ _ _ l m (λo e=>by rw[f] at e;cases e) g h (Wk.chars hz (t:=t)) (zU _ (B3 _ rfl) rfl rfl) q
noncomputable def gR(K:Frag)(k:Nat)(v:Value):Bool:=(M4 K qQ3 (nm k)==some none)&&!(nm k=="__name__")
theorem Hf(O:Z.Ok){k:Nat}{pos:Pos}{v:Value}{F:Fm}{d:List (Str×NameKind)}{R:Value->St->Prop}{Q:Value->St->Prop}(a:zV eV F d)(i:k<NN)(h:d.lookup (nm k)=some .globalImplicit)(b:gR Z.K k v=true)(g:qS2 (nm k)=some v)(q:Q v H):
  R9 Z n lc (eval (.Name (nm k) pos) eV) H Q R:=by
 refine R9.Ko (P:=λu=>u=v) (λA E m o s p f j l=>?_) λu e=>e▸q;simp only[gR,Fa,Bool.and_eq_true,beq_iff_eq,Bool.not_eq_true',beq_eq_false_iff_ne,ne_eq] at b;have c:=mg_none_of O.X O.G b.1;have G:=O.G.keeps f.old;have B:=O.B.keeps f.old;rw[<-a.globals] at G;rw[<-a.builtins] at B;exact Name_function_global a.kind (by unfold qX9;exact qX a.names h) (loadGlobal_builtin G c B ((O.mb _ b.2).trans g) (l v s.toks rfl)) (iK i)
theorem Ix{inv:St->Prop}(M:∀I j,Wk Z I inv (lY j) (λi h=>qC0 h I (0+(i:Nat)*1) ((j.toNat:Int)-(i:Nat)) 1))(O:Z.Ok){p pos:Pos}{e:Expr}{F:Fm}{l:List (Str×NameKind)}{Q:List AV->(St->Prop)->St->Prop}(G:zV eV F l)(J:l.lookup (nm 80)=some .globalImplicit)(K:gR Z.K 80 (.type "range")=true)(L:wK [e]=true)
  (h:R9 Z n lc (eval e eV) H (λv m=>∃j,Is v (.int j)∧0≤j∧j<2^20∧Q (lY j) inv m) qM):kX Z n lc (eval (.Call (.Name (nm 80) p) [e] [] pos) eV) H Q:=by
 have N:qS2 (nm 80)=some (.type "range"):=by kernel_rfl
 intro A E Qc P s r w S c k;have en:=Hf (Z:=Z) (n:=n) (lc:=lc) (H:=H) (pos:=p) (R:=qM) (Q:=λv T=>v=.type "range"∧T=H) O G (by decide) J K N ⟨rfl,rfl⟩;refine Call_Name (trees:=Je eV [e]) (qX (vL L) (qX uV rfl)) ?_;refine en A E _ P s r w S c (λu U f m V g x=>?_) (λ_ _ _ _ _ _ q=>q.elim);refine qK x λd W=>?_;clear x;subst d;subst W;refine PyProof.Rows.callWith_type (by rfl) ?_;refine evalArgs_plain (spliced_cons ?_);refine h A E _ f U r (w.pT g) V (c.pT g) (λv a X H2 y Y z=>?_) (λ_ _ _ _ _ _ q=>q.elim);refine cN z λj i aa hj q=>?_;clear z;refine zH i.xN λt d=>?_;subst d;refine spliced_nil ?_;refine jL (y.free O (Nat.le_refl a.heap.objs.size)) λn0 k0 z0 _=>?_;refine call_range_1 ?_;refine qK (y.more (tk:=a.toks+1+1) (h':=a.heap.push {cls:=.type "range",data:=.fields #[.int 0 a.toks,.int j t,.int 1 (a.toks+1)]}) (λb o e=>S7 _ e)) λB f3=>?_;have C:qL3 0 j 1=(j.toNat:Int):=by
  unfold qL3;refine qX (A3 (by decide)) ?_;split<;>lia
 refine wpAny_pyIter_range (IsRange.new a.heap 0 j 1 a.toks t (a.toks+1)) ?_ ?_
 ·unfold zQ0.Range.small;refine qX (C) ?_;unfold zQ0.Range.rangeFitsLong;refine qX (A3 (by decide)) ?_;have h1:((j.toNat:Int))<2^20+1:=by lia
  simp only[Bool.and_eq_true,decide_eq_true_eq,Bool.or_eq_true];refine⟨⟨⟨⟨⟨by decide,by decide⟩,⟨by lia,by lia⟩⟩,by decide,by decide⟩,by lia,by lia⟩,.inr ⟨by lia,by lia⟩⟩
 ·refine qK (B.more (tk:=a.toks+1+1) (h':=(a.heap.push {cls:=.type "range",data:=.fields #[.int 0 a.toks,.int j t,.int 1 (a.toks+1)]}).push {cls:=.type "range_iterator",data:=.fields #[qZ2 0,qZ2 (qL3 0 j 1),qZ2 1]}) (λb o e=>S7 _ e)) λr4 f4=>?_;refine jL (B.free O (Nat.le_refl _)) λn1 k1 d _=>?_;have D:=g.trans (Y.trans f3);refine k _ _ _ _ (lY j) _ _ r4 (D.trans f4) (dJ.pT (λo e=>by rw[n1] at e;cases e) D) k1 d (M _ j) ?_ q;show Heap.get? _ _=_;refine qX (B3 _ rfl) (qX (C) ?_);simp
theorem nX(h:κ b=some c):wM κ b c=κ:=funext λx=>by
 by_cases q:x=b
 ·rw[q,zG,h]
 ·exact qX (zM q) rfl
theorem Vq{o:Obj}(h:o.data=.dict es ep):o.isFreed=false:=by
 obtain⟨c,d,a,b⟩:=o;simp only at h;subst h;rfl
theorem Iy:∀{l:List Env}{s:S8},Rep Z κ s H->(∀eV∈l,cD Z κ s.heap eV)->(∀h',Rep Z κ {s with heap:=h'} H->jO κ s.heap κ h'->Q () {s with heap:=h'})->D8 MO A (zH8 l) Q E s:=by
 intro l;induction l with
 |nil=>
  intro s h _ k;simp only[zH8];exact S5 (k s.heap h .refl)
 |cons eV i w=>
  intro s h p k;obtain⟨x,L,m,y,⟨o,z,B,f,j,K⟩,C,D⟩:=p eV T3;simp only[zH8,y];refine R8 (qE5 f ?_);by_cases g:((o.slots.getD 3 none).isSome)=true
  ·exact qX (A3 g) (S5 (k s.heap h .refl))
  ·refine qX (D9 g) ?_;refine R8 (qM7 (a:=false) (by simp[behindIsImport,x]) ?_);refine R8 (wpAny_keptBack_false λd=>?_);refine R8 (zQ3 f ?_);have r:qW0 L s.heap (s.heap.update L λo=>{o with slots:=#[some eV.code,some (.ref eV.globals),o.slots.getD 2 none,some d,o.slots.getD 4 none,eV.func.map Value.ref,some (.ref eV.builtins)]++(eV.cells.map λc=>some (.ref c.2)).toArray}):=λb o n e=>by
    exact qX (qX8 _ _ (qN6 n)) (e)
   refine qK (h.Fc (tk:=s.toks) C D (jN o z B f j) r) λF _=>?_;have t:jO κ s.heap κ (s.heap.update L λo=>{o with slots:=#[some eV.code,some (.ref eV.globals),o.slots.getD 2 none,some d,o.slots.getD 4 none,eV.func.map Value.ref,some (.ref eV.builtins)]++(eV.cells.map λc=>some (.ref c.2)).toArray}):=λb u e v=>by
    by_cases q:b=L
    ·subst q;obtain rfl:=sj f e;exact pS v (qZ _ (D7 _ f (Vq j)) (λn=>absurd j (n _ _)))
    ·exact pS v (qZ u.slots (r b u q e) (λ_=>rfl))
   exact w F (λe G=>(p e (S9 _ G)).tJ t) λh' I J=>k h' I (t.trans J)
inductive ExcAt(κ:Kp)(h:Heap)(C:Nat)(e:Addr):Prop where
 |mk (o:Obj) (vs:Array Value) (c:Cell) (k:κ e=some c) (hc:c=.cB C∨∃d,c=.exc C d) (e1:h.get? e=some o) (e2:o.data=.fields vs) (e3:o.cls=.ref C) (x:Wt κ vs)
theorem vP(a:Rep Z κ s H)(h:H.exc C e=some f):ExcAt κ s.heap C e:=by
 refine qQ0 (a.view.exc C e f h) (λm=>?_) λn=>?_
 ·refine qK m λk _=>Fs ((a.cells e _ k).1) λo b c g p i j=>?_;exact⟨o,b,_,k,.inl rfl,c,i,g,j⟩
 ·refine yX n λd l k _=>Fs ((a.cells e _ k).1) λo b c g p i j=>?_;exact⟨o,b,_,k,.inr ⟨d,rfl⟩,c,i,g,j⟩
theorem Qq{o:Obj}(a:o.data=.fields vs)(g:Array Value->Array Value):(o.mapFields g).data=.fields (g vs)∧(o.mapFields g).cls=o.cls∧(o.mapFields g).dict=o.dict∧(o.mapFields g).isFreed=false:=by
 obtain⟨c,d,b,e⟩:=o;simp only at a;subst a;exact⟨rfl,rfl,rfl,rfl⟩
theorem Rep.Hh{e:Addr}{o:Obj}{vs:Array Value}{c:Cell}{C:Nat}(i:Rep Z κ s H)(k:κ e=some c)(l:c=.cB C∨∃d,c=.exc C d)(j:s.heap.get? e=some o)(a:o.data=.fields vs){g:Array Value->Array Value}(u:Wt κ (g vs)):
  Rep Z κ {s with heap:=s.heap.update e (Obj.mapFields g)} H∧yL κ s.heap κ (s.heap.update e (Obj.mapFields g)):=by
 have x:qW0 e s.heap (s.heap.update e (Obj.mapFields g)):=λb o n e=>by
  exact qX (qX8 _ _ (qN6 n)) (e)
 have v:=D7 (Obj.mapFields g) j (Qq a g).2.2.2;have f:∀c,κ e=some c->(∀vs,c≠.tup vs)->c≠.Ju->yQ Z κ (s.heap.update e (Obj.mapFields g)) e c->Rep Z κ {s with heap:=s.heap.update e (Obj.mapFields g)} H∧yL κ s.heap κ (s.heap.update e (Obj.mapFields g)):=λc k y z l=>by
  have:=i.updG (tk:=s.toks) (H':=H) (c:=c) k y x (qX (nX k) l) (qX (nX k) i.view) (λe=>absurd e z);rw[nX k] at this;exact this
 rcases l with rfl|w
 ·refine Fs ((i.cells e _ k).1) λA m p q r t _=>?_;obtain rfl:=sj j p;obtain rfl:=qD5 (a.symm.trans t);exact f _ k (λ_ h=>by cases h) (λh=>by cases h) (Tn _ _ v ((Qq a g).2.1.trans q) ((Qq a g).2.2.1.trans r) ((Qq a g).1) u)
 ·refine zH w λd B=>?_;clear w;subst B;refine Fs ((i.cells e _ k).1) λA m p q r t _=>?_;obtain rfl:=sj j p;obtain rfl:=qD5 (a.symm.trans t);exact f _ k (λ_ h=>by cases h) (λh=>by cases h) (Tn _ _ v ((Qq a g).2.1.trans q) ((Qq a g).2.2.1.trans r) ((Qq a g).1) u)
theorem Rep.trbF{T:Addr}(a:Rep Z κ s H)(k:κ T=some .Ju):Rep Z κ {s with heap:=s.heap.update T (Obj.mapFields (·.setIfInBounds i v))} H∧yL κ s.heap κ (s.heap.update T (Obj.mapFields (·.setIfInBounds i v))):=by
 have f:qW0 T s.heap (s.heap.update T (Obj.mapFields (·.setIfInBounds i v))):=λb o n e=>by
  exact qX (qX8 _ _ (qN6 n)) (e)
 refine wV ((a.cells T _ k).1) λo m g d j=>?_;have l:=D7 (Obj.mapFields (·.setIfInBounds i v)) g (Qq d _).2.2.2;have:=a.updG (tk:=s.toks) (H':=H) (c:=.Ju) k (λ_ h=>by cases h) f (qX (nX k) (xO _ _ l ((Qq d _).1) (qX Array.size_setIfInBounds j))) (qX (nX k) a.view) (λ_=>rfl);rw[nX k] at this;exact this
def qD8(κ:Kp)(h:Heap)(e:Addr):Prop:=∃o vs T,h.get? e=some o∧o.data=.fields vs∧vs[1]?=some (.ref T)∧κ T=some .Ju
theorem Lu(O:Z.Ok){C:Nat}{e L:Addr}{f:M}{eV m:Env}{outer:List Env}{i:Value}{j:Bool}(G:Rep Z κ s H)(F:H.exc C e=some f)(p:A.frames=some (m::outer))(B:∀x∈m::outer,cD Z κ s.heap x)(D:eV.frame=some L)(w:m.frame=eV.frame)
  (h:∀h' l,Rep Z l {s with heap:=h'} H->jO κ s.heap l h'->qD8 l h' e->Q () {s with heap:=h'}):
  D8 MO A (do let a<-frameOf eV;let pl<-entryPlaceOf L j;let b<-qB5 i a .none (qZ2 L) .none pl;setField (.ref e) 1 b) Q E s:=by
 unfold PySem.frameOf;refine R8 (R8 (wpAny_frameEnvs p ?_));have q:((m::outer).dropWhile λx=>x.frame !=eV.frame)=m::outer:=by simp[List.dropWhile,w]
 refine qX (q) ?_;unfold frameObject;refine R8 (R8 (Iy G B λd r I=>S5 ?_));refine qX (w) (qX (D) ?_);refine S5 ?_;refine R8 (wpAny_entryPlaceOf λpl t=>?_);unfold qB5 newFields;refine R8 (qQ4 ?_ (t.sizeOk5 _ _ _ _ _));refine jL (r.free O (Nat.le_refl _)) λW J X Y=>?_;have u:3<(([i,.ref L,.none,qZ2 L,.none]++(if pl.isEmpty then C9 6 Value.none else pl)).toArray:Array Value).size:=by
  simp only[qP3,E8,qW2,zH9];lia
 refine qK (r.new (tk:=s.toks) (h':=d.push {cls:=.type "traceback",dict:=none,data:=.fields ([i,.ref L,.none,qZ2 L,.none]++(if pl.isEmpty then C9 6 Value.none else pl)).toArray}) (c:=.Ju) O (Nat.le_refl _) (λb o e=>S7 _ e) (xO _ _ (B3 _ rfl) rfl u) (r.view.fresh J)) λy K=>?_;obtain⟨o,z,c,N,P,v,n,e3,x,⟨R,S⟩,e5⟩:=vP y F;have k:1<z.size:=(qS4.mp R).1;refine qV0 v n k ?_;have T:Wt (wM κ d.objs.size .Ju) (z.setIfInBounds 1 (.ref d.objs.size)):=qZ _ ⟨by simp[k],qX (qU9 (by decide)) S⟩ (.inr (qZ _ rfl (zG ..)));refine qK (y.Hh N P v n (g:=(·.setIfInBounds 1 (.ref d.objs.size))) T) λU V=>?_;refine h _ _ U ((I.trans K.G9).trans V.G9) (Km _ _ _ (D7 _ v (Qq n _).2.2.2) ((Qq n _).1) (by simp[k]) (zG ..))
theorem Vz(O:Z.Ok){C:Nat}{e L:Addr}{f:M}{eV j:Env}{outer:List Env}(d:Rep Z κ s H)(g:H.exc C e=some f)(b:A.frames=some (j::outer))(m:∀x∈j::outer,cD Z κ s.heap x)(k:eV.frame=some L)(l:j.frame=eV.frame)
  (h:∀h' a,Rep Z a {s with heap:=h'} H->jO κ s.heap a h'->qD8 a h' e->Q () {s with heap:=h'}):D8 MO A (qP6 (.ref e) eV) Q E s:=by
 obtain⟨o,D,c,S,U,n,p,V,x,⟨r,W⟩,F⟩:=vP d g;unfold qP6;simp only[k];refine R8 (qY1 n p r ?_);rcases F with rfl|G
 ·refine qX (D9 (by decide)) ?_;exact Lu O d g b m k l h
 ·refine qY G λT I kT=>?_;subst I;refine wV ((d.cells T _ kT).1) λX J u w z=>?_;refine qX (A3 (show(Value.ref T !=Value.none)=true from by simp)) ?_;refine R8 (qY1 u w (qJ3 z) ?_);by_cases q:(J[3]==qZ2 L)=true
  ·refine qX (A3 q) ?_;exact S5 (h s.heap κ d .refl (Km o D T n p r kT))
  ·refine qX (D9 q) ?_;refine R8 (qV0 u w z ?_);refine qK (d.trbF (i:=3) (v:=.none) kT) λK B=>?_;exact Lu O K g b (λy N=>(m y N).tJ B.G9) k l λh' a P R t=>h h' a P (B.G9.trans R) t
theorem nY(a:Rep Z κ s H)(b:qD8 κ s.heap e)(h:∀h',Rep Z κ {s with heap:=h'} H->jO κ s.heap κ h'->Q () {s with heap:=h'}):D8 MO A (qI0 (.ref e) fr) Q E s:=by
 refine Ts b λo p T c d g kT=>wV ((a.cells T _ kT).1) λq r j k l=>?_;unfold qI0;refine R8 (qY1 c d g ?_);refine qX (A3 (show(Value.ref T !=Value.none)=true from by simp)) ?_;refine qK (a.trbF (i:=3) (v:=fr.elim .none λf=>qZ2 f) kT) λm n=>?_;exact qV0 j k l (h _ m n.G9)
theorem Ij(O:Z.Ok){C:Nat}{e L:Addr}{f:M}{eV b:Env}{outer:List Env}(j:Rep Z κ s H)(i:H.exc C e=some f)(c:A.frames=some (b::outer))(k:∀x∈b::outer,cD Z κ s.heap x)(l:eV.frame=some L)(g:b.frame=eV.frame)
  (h:∀h' a,Rep Z a {s with heap:=h'} H->jO κ s.heap a h'->Q () {s with heap:=h'}):D8 MO A (leaving eV (.ref e)) Q E s:=by
 unfold leaving;exact R8 (Vz O j i c k l g λh' a m n t=>nY m t λd o p=>h d a o (n.trans p))
theorem zP8(O:Z.Ok){k:O3}{g:Value->S8->Prop}{C:Nat}{e L:Addr}{f:M}{eV c:Env}{outer:List Env}(n:Rep Z κ s H)(m:H.exc C e=some f)(b:A.frames=some (c::outer))(j:∀x∈c::outer,cD Z κ s.heap x)(l:eV.frame=some L)(i:c.frame=eV.frame)
  (h:∀h' a,Rep Z a {s with heap:=h'} H->jO κ s.heap a h'->g (.ref e) {s with heap:=h'}):notedBy MO A eV (wY6 MO k eV g) (.ref e) s:=by
 refine Vz O n m b j l i λh' a p q t=>?_;refine Ts (id t) λo z T r u v kT=>?_;unfold wY6;refine R8 (qY1 r u v ?_);refine qX (D9 (show¬(Value.ref T==Value.none)=true from by simp)) ?_;exact nY p t λd w y=>h d a w (q.trans y)
def FQ(Q:Fl->M->St->Prop):Flow->M->St->Prop:=λf m H=>match f with
 |.next=>Q .next m H
 |.brk=>Q .brk m H
 |.cont=>Q .cont m H
 |.ret v=>∃a,Is v a∧Q (.ret a) m H
theorem vN.Iv{T:Prop}{L I:Addr}{κ a:Kp}{h h' c:Heap}(x:vN T L κ h a h')(d:dJ κ h I)(f:∀b o,b≠I->h'.get? b=some o->c.get? b=some o):vN T L κ h a c:=λb o n e k=>by
 refine qK (x b o n e k) λg i=>qY i λj l m=>?_;exact pS g (qZ j (f b _ (by rintro rfl;exact d o e k) l) m)
noncomputable def yY(e:Expr):Bool:=!Nat.beq e.ctorIdx 7
theorem tH(h:yY e=true)(eV:Env)(x:Value):foldedSetIterable e eV x=pure x:=by
 cases e<;>first|exact(rfl:(pure x:Sem Value)=pure x)|exact Bool.noConfusion h
structure FS(Z:Ctx)(T:Prop)(L:Addr)(κ:Kp)(s:S8)(κ':Kp)(s':S8)(H':St)(m':M):Prop where
 r:Rep Z κ' s' H'
 f:vN T L κ s.heap κ' s'.heap
 lo:wN κ' s'.heap L m'
inductive FI(Z:Ctx)(T:Prop)(L I:Addr)(κ:Kp)(s:S8)(P:Nat->Heap->Prop)(w:List AV->M->St->Prop)(vs:List AV)(nn:Nat)(s':S8):Prop where
 |mk (done rest:List AV) (κ':Kp) (H':St) (m':M) (ev:vs=done++rest) (en:nn=rest.length) (c:FS Z T L κ s κ' s' H' m') (kI:κ' I=none) (p:P done.length s'.heap) (w:w rest m' H')
inductive WI(Z:Ctx)(T:Prop)(L:Addr)(κ:Kp)(s:S8)(w:Nat->M->St->Prop)(nn:Nat)(s':S8):Prop where
 |mk (κ':Kp) (H':St) (m':M) (c:FS Z T L κ s κ' s' H' m') (w:w nn m' H')
theorem Vw{a:Kp}{h h':Heap}{I L:Addr}{m':M}(lo:wN a h L m')(c:I≠L)(d:∀b o,b≠I->h.get? b=some o->h'.get? b=some o):wN a h' L m':=by
 obtain⟨e,f,⟨o,g,i,j,k⟩,l⟩:=lo;exact⟨e,f,jN o g i (d _ _ c.symm j) k,l⟩
theorem nJ{R:Value->St->Prop}(p:(∃e H,R e H)->eV.frame=some eV.locals)(n:∀e H',R e H'->∃a C g,e=.ref a∧H'.exc C a=some g)(O:Z.Ok){A:O3}{E:Value->S8->Prop}{κ:Kp}{s:S8}(N:mA Z κ A s.heap)(K:Hk Z A eV.locals R)(L:∀e r b H',Rep Z b r H'->rZ eV.locals κ s.heap b r.heap->R e H'->E e r)
  {e:Value} {t:S8} {c:Kp} {k:St} (M:Rep Z c t k) (u:rZ eV.locals κ s.heap c t.heap) (j:R e k):notedBy (model O7 Z.w) (A.mark none) eV (wY6 (model O7 Z.w) A eV E) e t:=by
 refine jP (n e k j) λa C g d P=>?_;subst d;refine yX (K.hd (Jj _ _ j)) λe0 v F w=>?_;have f:=p (Jj _ _ j);obtain⟨l,Q,S⟩:=N;obtain rfl:=sj F Q;refine zP8 O M P (A:=A.mark none) F (λx T=>?_) f (w.trans f.symm) λh' y U V=>L _ _ y k U (u.on V) j;obtain⟨h,m,W,G,i,z,I⟩:=S x T;by_cases q:m=eV.locals
 ·refine zH u.2 λm2 d=>?_;obtain⟨B,X,D,_⟩:=d;exact⟨h,m,X,G,q▸D,q▸B,I⟩
 ·refine jP (id i) λo es ep J rL=>qK (u.1 m o q J z) λB d=>qY d λsl Y _=>?_;exact⟨h,m,W,G,tY i J Y,B,I⟩
theorem zS0{R:Value->St->Prop}(D:(∃e H,R e H)->eV.frame=some eV.locals)(y:∀e H',R e H'->∃a C g,e=.ref a∧H'.exc C a=some g)(O:Z.Ok)(EO:zV eV F ks){k:Nat}{tp pos:Pos}{iter:Expr}{body:List Stmt}{Q:Fl->M->St->Prop}{B:AV->M->(Fl->M->St->Prop)->St->Prop}
  (hp:yY iter=true)
  (hB:∀v x m' Q' H',Is x v->B v m' Q' H'->qF Z n eV.locals m' (qY4 (.Name (nm k) tp) eV x) H' (λ_ ab aa=>qF Z n eV.locals ab (qQ8 body eV) aa (FQ Q') R) R)
  (hS:kX Z n (some (eV.locals,m)) (eval iter eV) H (λvs inv H1=>fU inv B vs m Q H1)):
  qF Z n eV.locals m (exec (.For (.Name (nm k) tp) iter body [] pos) eV) H (FQ Q) R:=by
 rw[exec_For];refine qF.standAt ?_;intro A E Qc κ s G J hR l Y kq kx;refine R8 (wpAny_mono (hS A E (λit s'=>D8 (model O7 Z.w) A (runOwn (.forLoop (.Name (nm k) tp) it body [] eV) eV) Qc E s') κ s G J hR l λI s1 ac H1 vs inv P r1 f1 nw k1 z1 W p1 w=>?_) (λx ae K=>R8 (qM7 (tH hp eV x) (R8 (qY9 (R8 (O4 K)))))) λ_ _ z=>z);have f:I≠eV.locals:=by
  rintro rfl
  obtain⟨kl,mm,⟨o,es,ep,eo,_⟩,_⟩:=l;exact nw o eo kl
 refine wpAny_runOwn (codeAny_forLoop (FI Z (∃e H,R e H) eV.locals I κ s P (λrest m' H'=>fU inv B rest m' Q H') vs) ?_ vs.length ⟨[],vs,ac,H1,m,rfl,rfl,⟨r1,f1.Ae,wN.pT l f1⟩,k1,p1,w⟩);intro nn s' y1;obtain⟨d,rest,h,H',m',ev,en,c,L,p,w⟩:=y1;cases rest with
 |nil=>
  have ed:vs.length=d.length:=by rw[ev,E7]
  refine W.done A _ h s' H' _ G.hd c.r w.1 L (ed▸p) λh' tk r=>?_;rw[qB4];refine qK (c.r.Kr (tk:=tk) L z1 (λq=>W.uD _ _ q p) (λb o n e=>r b o n e)) λr2 _=>?_;exact S5 (kq _ _ h H' m' r2 (c.f.Iv nw r) (Vw c.lo f r) w.2)
 |cons v rest=>
  refine W.item A _ h s' H' d.length v _ G.hd c.r w.1 L p (by rw[ev];simp) λx h' tk ix p' r=>?_;refine qK (c.r.Kr (tk:=tk) L z1 (λq=>W.uD _ _ q p) (λb o n e=>r b o n e)) λr2 _=>?_;have N:=Vw c.lo f r;have f2:=c.f.Iv nw r;refine hB v x _ _ _ ix w.2 A _ _ h _ G (J.Bn f2 N) r2 N Y (λ_ s3 S H3 m3 r3 f3 T q3=>?_) (λe s3 S H3 r3 f3 q3=>nJ D y O J Y kx r3 (.of f2 f3) q3);refine zH (W.live _ _ p') λoI eI=>?_;have nI:=W.nd _ _ p' _ eI;have i:=f3.at f eI L λ_=>nI;have p3:=W.frame _ _ _ p' λo e=>sj eI e▸i.1;have g3:=f2.trans f3;refine q3 A _ _ S s3 G (J.Bn g3 T) r3 T Y (λfl s4 j U m4 V f4 t u=>?_) (λe s4 j U V f4 u=>nJ D y O J Y kx V (.of g3 f4) u);have f5:=g3.trans f4;have X:=f4.at f i.1 i.2 λ_=>nI;have p4:=W.frame _ _ _ p3 λo e=>sj i.1 e▸X.1;have again:fU inv B rest m4 Q U->∃mm,mm<nn∧FI Z (∃e H,R e H) eV.locals I κ s P (λrest m' H'=>fU inv B rest m' Q H') vs mm s4:=
   λw4=>qZ rest.length (by rw[en];exact Nat.lt_succ_self _) ⟨d++[v],rest,j,U,m4,by rw[ev,qY5];rfl,rfl,⟨V,f5,t⟩,X.2,by rw[E8];exact p4,w4⟩
  cases fl with
  |next=>exact again u
  |cont=>exact again u
  |brk=>exact kq _ _ j U m4 V f5 t u
  |ret v'=>exact kq _ _ j U m4 V f5 t u
theorem Rq{R:Value->St->Prop}(p:(∃e H,R e H)->eV.frame=some eV.locals)(o:∀e H',R e H'->∃a C g,e=.ref a∧H'.exc C a=some g)(O:Z.Ok)(EO:zV eV F ks){pos:Pos}{t:Expr}{body:List Stmt}{Q:Fl->M->St->Prop}{T:M->(Bool->St->Prop)->St->Prop}{B:M->(Fl->M->St->Prop)->St->Prop}
  (hT:∀m' q H',T m' q H'->R9 Z n (some (eV.locals,m')) (isTrue t eV (eval t eV)) H' q R)
  (Y:∀m' q H',B m' q H'->qF Z n eV.locals m' (qQ8 body eV) H' (FQ q) R) {fuel:Nat} (w:Bg T B fuel m Q H):
  qF Z n eV.locals m (exec (.While t body [] pos) eV) H (FQ Q) R:=by
 rw[exec_While];refine qF.standAt ?_;intro A E Qc S s U v hR J K L V;refine wpAny_runOwn (codeAny_whileLoop (WI Z (∃e H,R e H) eV.locals S s λj m' H'=>Bg T B j m' Q H') ?_ fuel ⟨S,H,m,⟨hR,vN.refl,J⟩,w⟩);intro j s' y2;obtain⟨N,H',m',⟨r,f,lo⟩,w⟩:=y2;cases j with
 |zero=>exact w.elim
 |succ j=>
  refine hT _ _ _ w A _ _ N s' U (v.Bn f lo) r lo (λc W h X x y z=>?_) (λe W h X x y z=>nJ p o O v K V x (.of f (y.Ae lo)) z);have i:=wN.pT lo y;have D:=f.trans y.Ae;cases c with
  |false=>
   rw[qB4];exact S5 (L _ _ h X m' x D i z)
  |true=>
   refine Y _ _ _ z A _ _ h W U (v.Bn D i) x i K (λfl s4 b u G k P d l=>?_) (λe s4 b u k P l=>nJ p o O v K V k (.of D P) l);have I:=D.trans P;cases fl with
   |next=>exact qZ j (Nat.lt_succ_self _) ⟨b,u,G,⟨k,I,d⟩,l⟩
   |cont=>exact qZ j (Nat.lt_succ_self _) ⟨b,u,G,⟨k,I,d⟩,l⟩
   |brk=>exact L _ _ b u G k I d l
   |ret v'=>exact L _ _ b u G k I d l
noncomputable def qG5(b:Bool):NameKind:=if b then .cell else .local
noncomputable def eB(a:List (Str×NameKind)):List (Bool×Nat)->List Expr->Bool
 |[],l=>l.isEmpty
 |(b,k)::r,l=>yR l λe c=>jM a k (qG5 b) e&&eB a r c
theorem Rz(h:eB ks ((b,k)::r) l=true):∃p a,l=.Name (nm k) p::a∧k<NN∧ks.lookup (nm k)=some (qG5 b)∧eB ks r a=true:=by
 refine yX (vB h) λe a c q=>?_;subst c;obtain⟨d,f⟩:=qO q;refine zX (kG d) λp c g i=>?_;subst c;exact Em p a rfl g i f
theorem yL.Iv(x:yL κ h κ' h')(a:dJ κ h I)(c:∀b o,b≠I->h'.get? b=some o->h''.get? b=some o):yL κ h κ' h'':=λb o e k=>by
 refine qK (x b o e k) λd f=>?_;exact⟨c b o (by rintro rfl;exact a o e k) d,f⟩
theorem yL.Vx{T:Prop}{C:Addr}{κ c a:Kp}{h h' d:Heap}(x:yL κ h c h')(f:dJ κ h C)(y:vN T C c h' a d)(g:¬T):yL κ h a d:=λb o e k=>by
 refine qK (x b o e k) λi j=>?_;exact y.at (by rintro rfl;exact f o e k) i j λt=>absurd t g
theorem zU0(h:zV eV F ks)(i:zK Is xs vs):∀{d:List (Bool×Nat)}{f:List Expr}{m:M}{H:St},eB ks d f=true->Bf F d vs m Q H->
  qF Z n eV.locals m (assignInOrder ((qE4 f eV).map (·.2)) xs) H (λ_ m' H'=>Q m' H') qM:=by
 induction i with
 |nil=>
  intro d f m H g w;cases d with
  |nil=>
   obtain rfl:=E6.mp g;exact qF.pure w
  |cons t r=>obtain⟨b,k⟩:=t;cases b<;>exact w.elim
 |@cons x a xs vs j r l=>
  intro d f m H g w;cases d with
  |nil=>exact w.elim
  |cons t z=>
   obtain⟨b,k⟩:=t;refine Jv (Rz g) λp A u q s e=>?_;subst u;cases b with
   |false=>exact qF.bind (qF.holding (kW (sL h q s j (l e w))))
   |true=>
    obtain⟨c,v,o,y,w⟩:=w;exact qF.bind (qF.holding (kW (R9.toS (pD h q s v y j (l e w)))))
theorem Qz:∀{a:List (Bool×Nat)}{c:List Expr},eB ks a c=true->(qE4 c eV).length=a.length∧(qE4 c eV).findIdx? (·.1)=none:=by
 intro a;induction a with
 |nil=>
  intro c h;obtain rfl:=E6.mp h;exact⟨rfl,rfl⟩
 |cons bk r d=>
  intro c h;obtain⟨b,k⟩:=bk;refine Jv (Rz h) λp j e _ _ f=>?_;subst e;refine qK (d f) λg i=>?_;exact⟨cgA Nat.succ g,qX (List.findIdx?_cons) (qX i rfl)⟩
theorem zR5(C:Z.hd=none)(D:zV eV F ks){d:List (Bool×Nat)}{p:List Expr}{c:Nat}{pos:Pos}{v:Value}{a:Addr}{vs:List AV}{Q:M->St->Prop}(t:eB ks d p=true)(B:Is v (.ref a))(h:H.tup a=some vs)(G:vs.length=d.length)(w:Bf F d vs m Q H):
  qF Z n eV.locals m (qY4 (.Tuple p c pos) eV v) H (λ_ m' H'=>Q m' H') qM:=by
 obtain rfl:=B.zT;refine qF.standAt ?_;intro A E I J s u K x g L N X;refine qY (pG x h) λY O y=>qK (Qz (eV:=eV) t) λP R=>?_;refine wpAny_unpack_tuple (u.hd.trans C) O (by rw[P,<-G];simp[y.length]) R λS T=>?_;have U:=qW8 (h:=s.heap) (Nat.le_refl _);have i:∀b o,s.heap.get? b=some o->S.get? b=some o:=λb o e=>T b o (λz=>uZ (U.symm.trans (z▸e))) e;refine qK (x.more (tk:=s.toks) i) λV j=>?_;exact zU0 D y t w A E I J _ u (K.pT j) V (wN.pT g j) L (λv W k H' m' r f l q=>N v W k H' m' r (j.Ae.trans f) l q) (λ_ _ _ _ _ _ q=>q.elim)
noncomputable def xY(eV:Env)(ifs:List Expr)(b:Bool):Sem Bool:=forIn ifs b λc r=>if r=true then do let ok<-isTrue c eV (eval c eV);pure (qJ4 ok) else pure (qJ4 r)
theorem Bt:xY eV ifs false=pure false:=by
 induction ifs with
 |nil=>rfl
 |cons c r a=>unfold xY at a⊢;simp only[qL0,Bool.false_eq_true,if_false,qX7];exact a
theorem nV(q:Q true H):R9 Z n lc (xY eV [] true) H Q qM:=R9.pure q
theorem Qw(h:R9 Z n lc (isTrue c eV (eval c eV)) H (λb a=>if b=true then R9 Z n lc (xY eV r true) a Q qM else Q false a) qM):R9 Z n lc (xY eV (c::r) true) H Q qM:=by
 unfold xY;simp only[qL0,if_true];refine R9.bind (R9.bind (h.mono (λb a q=>R9.pure ?_) λ_ _ r=>r));cases b with
 |false=>
  show R9 Z n lc (xY eV r false) a Q qM;exact qX Bt (R9.pure (by simpa using q))
 |true=>
  show R9 Z n lc (xY eV r true) a Q qM;simpa using q
noncomputable def xW(eV:Env)(names:List (Str×NameKind)):List (Str×Addr):=(names.filter λx=>x.2==.free).reverse.map λx=>(x.1,(eV.cells.lookup x.1).getD 0)
theorem Lk:∀{names:List (Str×NameKind)}(acc:List (Str×Addr)),(∀x∈names,x.2=.free->∃a,eV.cells.lookup x.1=some a)->
  (forIn names acc λx c=>if(x.2==NameKind.free)=true then do let a<-cellOf eV x.1;pure (qJ4 ((x.1,a)::c)) else pure (qJ4 c):Sem (List (Str×Addr)))=pure (xW eV names++acc):=by
 intro names;induction names with
 |nil=>
  exactλ_ _=>rfl
 |cons x r b=>
  intro acc h;have d:=λacc=>b acc λy g=>h y (S9 _ g);rw[qL0];by_cases k:x.2=.free
  ·obtain⟨a,e⟩:=h x T3 k;have i:cellOf eV x.1=pure a:=by unfold cellOf;rw[e]
   refine qX (A3 (qX k rfl)) (qX i ?_);simp only[qX7];rw[d];simp[xW,k,e]
  ·have f:(x.2==NameKind.free)=false:=by simpa using k
   rw[D9 (by rw[f];exact Bool.false_ne_true)];simp only[qX7];rw[d];simp[xW,f]
theorem lL(h:∀x∈scope.names,x.2=.free->∃a,eV.cells.lookup x.1=some a):closureFor scope eV=pure (xW eV scope.names):=by
 have:=Lk (eV:=eV) (names:=scope.names) [] h;rw[E7] at this;refine qX (C6 (this)) ?_;unfold closureFor;simp only[bind_pure]
theorem lO{names:List (Str×NameKind)}(h:(x,NameKind.free)∈names)(e:∃a,eV.cells.lookup x=some a):(xW eV names).lookup x=eV.cells.lookup x:=by
 refine zH e λa c=>?_;clear e;refine qX (c) ?_;unfold xW;have:∀(l:List (Str×NameKind)),(x,NameKind.free)∈l->(l.map λx=>(x.1,(eV.cells.lookup x.1).getD 0)).lookup x=some a:=by
  intro l;induction l with
  |nil=>intro h;cases h
  |cons y r d=>
   intro b;refine qX (B6) (qX (qQ1) ?_);by_cases q:x=y.1
   ·subst q;simp[c]
   ·have:(x==y.1)=false:=by simpa using q
    refine qX (this) ?_;rcases E3.mp b with rfl|b
    ·exact absurd rfl q
    ·exact d b
 exact this _ (qK6.mpr (T6.mpr ⟨h,rfl⟩))
noncomputable def jJ(a names:List (Str×NameKind)):List (Str×NameKind):=names.map λ(x,k)=>if(k==.free&&a.lookup x==some .cell) then(x,.cell) else(x,k)
noncomputable def iF(a:List (Str×NameKind))(scope:Scope):Bool:=
 (scope.kind==.function)&&scope.names.all λx=>(x.2 !=.cell)&&(x.2 !=.local||scope.names.lookup x.1==some .local)&&(x.2 !=.free||a.lookup x.1==some .cell||a.lookup x.1==some .free)
structure gS(ks:List (Str×NameKind))(scope:Scope):Prop where
 kind:scope.kind=.function
 cell:∀x∈scope.names,x.2≠.cell
 N9:∀x∈scope.names,x.2=.local->scope.names.lookup x.1=some .local
 free:∀x∈scope.names,x.2=.free->ks.lookup x.1=some .cell∨ks.lookup x.1=some .free
theorem Ll(h:iF ks scope=true):gS ks scope:=by
 simp only[iF,Bool.and_eq_true,beq_iff_eq,D5,bne_iff_ne,Bool.or_eq_true] at h;refine⟨h.1,λx a=>(h.2 x a).1.1,λx a k=>?_,λx a k=>?_⟩
 ·refine qQ0 ((h.2 x a).1.2) (λq=>?_) λq=>?_
  ·exact absurd k q
  ·exact q
 ·rcases(h.2 x a).2 with(q|q)|q
  ·exact absurd k q
  ·exact .inl q
  ·exact .inr q
theorem kM{names:List (Str×NameKind)}(h:(jJ ks names).lookup x=some .cell∨(jJ ks names).lookup x=some .free):(x,NameKind.free)∈names∨(x,NameKind.cell)∈names:=by
 induction names with
 |nil=>rcases h with h|h<;>cases h
 |cons y r a=>
  obtain⟨y,k⟩:=y;unfold jJ at h a;replace h:=B6▸h;dsimp only at h;split at h
  ·rename_i q
   simp only[Bool.and_eq_true,beq_iff_eq] at q;rw[qQ1] at h;by_cases z:x=y
   ·subst z;exact qX q.1 (.inl T3)
   ·have b:(x==y)=false:=by simpa using z
    replace h:=b▸h;rcases a h with w|w
    ·exact .inl (S9 _ w)
    ·exact .inr (S9 _ w)
  ·rw[qQ1] at h;by_cases z:x=y
   ·subst z;simp only[beq_self_eq_true] at h;rcases h with h|h<;>cases h
    ·exact .inr T3
    ·exact .inl T3
   ·have b:(x==y)=false:=by simpa using z
    replace h:=b▸h;rcases a h with w|w
    ·exact .inl (S9 _ w)
    ·exact .inr (S9 _ w)
theorem vD{scope:Scope}(b:zV eV F ks)(S:gS ks scope)(C:Addr):zV (qX2 scope (xW eV scope.names) C eV) F (jJ ks scope.names) where
 kind:=S.kind
 names:=by
  show(zQ4 scope eV).names=_;unfold zQ4 jJ qX9;refine qX (b.kind) (qX (b.names) ?_);simp
 globals:=b.globals
 builtins:=b.builtins
 cells:=λk a e h f=>by
  have c:(nm k,NameKind.free)∈scope.names:=by
   refine qQ0 (kM h) (λq=>?_) λq=>?_
   ·exact q
   ·exact absurd rfl (S.cell _ q)
  have d:=S.free _ c rfl;refine qX (lO c (b.has _ d)) ?_;exact b.cells k a e d f
 has:=λx h=>by
  have c:(x,NameKind.free)∈scope.names:=by
   refine qQ0 (kM h) (λq=>?_) λq=>?_
   ·exact q
   ·exact absurd rfl (S.cell _ q)
  refine qX (lO c (b.has _ (S.free _ c rfl))) ?_;exact b.has _ (S.free _ c rfl)
theorem xL(V:View κ H)(i:κ b=none):qD H b:=by
 have a:∀{t:Addr}{c:Cell},κ t=some c->(t=b)=False:=λ{t c} e=>by
  simp only[eq_iff_iff,iff_false];rintro rfl;rw[i] at e;exact uZ e
 have f:∀{α:Type}{o:Option α},o.isSome=true->∃x,o=some x:=λ{α o} h=>by cases o with|none=>cases h|some x=>exact⟨x,rfl⟩
 refine⟨λC t h=>?_,λg t h=>?_,λt h=>?_,λg t h=>?_,λg t h=>?_,λt h=>?_,λg t h=>?_,λg t h=>?_⟩<;>obtain⟨x,e⟩:=f h
 ·refine yX (V.obj C t x e) λd l p _=>?_;exact a p
 ·exact a (V.lst g t x e)
 ·exact a (V.tup t x e)
 ·exact a (V.sd g t x e)
 ·exact a (V.td g t x e)
 ·exact a (V.yT t x e)
 ·exact a (V.qG g t x e)
 ·exact a (V.fn g t x e)
theorem Rep.adopt{κ:Kp}{s:S8}{H':St}{D:Addr}{c:Cell}(a:Rep Z κ s H)(d:κ D=none)(f:Z.h₀.get? D=none)(g:3<D)(h:∀q,¬s.heap.CodeRec (.ref D) q)(i:yQ Z (wM κ D c) s.heap D c)(j:View (wM κ D c) H'):
  Rep Z (wM κ D c) s H':=by
 refine⟨a.old,λx k e=>?_,j,a.gens,a.os⟩;by_cases q:x=D
 ·subst q;rw[zG] at e;cases e;exact⟨i,f,g⟩
 ·rw[zM q] at e;refine qK (a.cells x k e) λp r=>?_;exact⟨p.step (b:=D) (λx o _ e=>e) (λx n=>zM n) (.inr (.inr ⟨d,h⟩)) (λe=>by rw[d] at e;cases e) q,r⟩
theorem zB5{c:Model}{A:O3}{E:Value->S8->Prop}{s:S8}{target:Expr}{I:Addr}{v:Value}{Q:Unit->S8->Prop}
  (e:∃o T,s.heap.get? I=some o∧o.cls=.type T∧["enumerate","zip","dict_itemiterator","dict_reverseitemiterator","odict_iterator","itertools.zip_longest","itertools.pairwise"].contains T=false) (h:Q () s):
  D8 c A (qU5 target (.ref I) v) Q E s:=by
 refine wV e λo T f g i=>?_;have b:∀a,D8 c A (do
   let o<-load I
   match o.cls,o.data with
   |.type n,.fields d=>
    if(["enumerate","zip","dict_itemiterator","dict_reverseitemiterator","odict_iterator","itertools.zip_longest","itertools.pairwise"].contains n&&d[0]?==some (qZ2 a))=true then do
     rule "for.unpacks-the-owned-tuple"
     updateField I 0 .none
    else pure ()
   |_,_=>pure ()) Q E s:=λa=>by
  refine R8 (qE5 f ?_);refine qX (g) ?_;cases o.data with
  |fields d=>
   refine qM7 (D9 ?_) h;rw[i,Bool.false_and];exact Bool.false_ne_true
  |_=>exact S5 h
 cases target with
 |Tuple=>cases v<;>first|exact S5 h|exact b _
 |List=>cases v<;>first|exact S5 h|exact b _
 |_=>exact S5 h
noncomputable def sP(target:Expr)(ifs:List Expr)(p:Pos)(emit:Sem Unit)(it:Value)(eV:Env)(c:Code):Sem Fin:=
 qH2 p>>=λ_=>qR4 it>>=λr=>match r with
 |none=>pure (.done .next)
 |some v=>qU5 target it v>>=λ_=>qY4 target eV v>>=λ_=>xY eV ifs true>>=λa=>(if a=true then emit else pure ())>>=λ_=>again c
structure CS(Z:Ctx){β:Type}(κ:Kp)(s:S8)(I D L:Addr)(P:Nat->Heap->Prop)(Acc:Heap->List β->Prop)(Lp:M->Prop)(d:Nat)(κ':Kp)(s':S8)(H':St)(m':M)(eZ:List β):Prop where
 le:eZ.length≤d
 r:Rep Z κ' s' H'
 f:yL κ s.heap κ' s'.heap
 kI:κ' I=none
 kD:κ' D=none
 p:P d s'.heap
 ac:Acc s'.heap eZ
 lo:wN κ' s'.heap L m'
 dm:Lp m'
inductive CI(Z:Ctx){β:Type}(κ:Kp)(s:S8)(I D L:Addr)(P:Nat->Heap->Prop)(Acc:Heap->List β->Prop)(Lp:M->Prop)(w:List AV->List β->St->Prop)(vs:List AV)(nn:Nat)(s':S8):Prop where
 |mk (done rest:List AV) (κ':Kp) (H':St) (m':M) (eZ:List β) (ev:vs=done++rest) (en:nn=rest.length) (c:CS Z κ s I D L P Acc Lp done.length κ' s' H' m' eZ) (w:w rest eZ H')
theorem Yx{A:O3}{κ:Kp}{s S:S8}{t:Kp}{H0:St}{I D:Addr}{a:Env}{target:Expr}{ifs:List Expr}{p:Pos}{emit:Sem Unit}{c:Code}{RR:qL4->S8->Prop}
  {inv:St->Prop} {vs:List AV} {P:Nat->Heap->Prop} {T:AV->St->(M->St->Prop)->Prop} {IT:M->(Bool->St->Prop)->St->Prop} {β:Type} {El:M->(β->St->Prop)->St->Prop} {Qf:List β->St->Prop} {Acc:Heap->List β->Prop} {Lp:M->Prop}
  (hc:c.quiet=true) (V:∀(Q:Fin->S8->Prop)(E:Value->S8->Prop)(l:S8),D8 (model O7 Z.w) A ((sP target ifs p emit (.ref I) a c).onRaise λx=>do qP6 x a;qU6 x) Q E l->D8 (model O7 Z.w) (A.under c) ((model O7 Z.w).den c) Q E l)
  (hA:uW Z A n) (hF:mA Z κ A s.heap) (nI:dJ κ s.heap I) (nD:dJ κ s.heap D) (nC:dJ κ s.heap a.locals) (F:I≠D) (H:I≠a.locals) (L:D≠a.locals)
  (r0:Rep Z t S H0) (f0:yL κ s.heap t S.heap) (k1:t I=none) (k2:t D=none) (z1:Z.h₀.get? I=none) (z3:Z.h₀.get? a.locals=none)
  (W:Wk Z I inv vs P) (p0:P 0 S.heap) (a0:Acc S.heap []) (l0:wN t S.heap a.locals (λ_=>none)) (d0:Lp λ_=>none) (ag:vs.length<1000000)
  (z:∀h eZ,Acc h eZ->∃o,h.get? D=some o)
  (j:∀h h' eZ,Acc h eZ->(∀o,h.get? D=some o->h'.get? D=some o)->Acc h' eZ)
  (hT:∀v x m H' f,Is x v->Lp m->T v H' f->qF Z n a.locals m (qY4 target a x) H' (λ_ m' r=>f m' r∧Lp m') qM)
  (hI:∀m' u H',IT m' u H'->R9 Z n (some (a.locals,m')) (xY a ifs true) H' u qM)
  (ah:∀(d:Kp)(l:S8)(H':St)(m':M)(eZ:List β)(u:β->St->Prop)(Qc:Unit->S8->Prop)(E:Value->S8->Prop),mA Z d A l.heap->Rep Z d l H'->wN d l.heap a.locals m'->Lp m'->d D=none->Acc l.heap eZ->eZ.length<1000000->El m' u H'->
   (∀G B r y,Rep Z B G r->(∀b o,b≠D->l.heap.get? b=some o->d b=none->G.heap.get? b=some o∧B b=none)->B D=none->Acc G.heap (eZ++[y])->u y r->Qc () G)->D8 (model O7 Z.w) A emit Qc E l)
  (w0:xB inv (λx u H'=>T x H' λm' r=>IT m' (λb X=>if b=true then El m' (λy H3=>u (some y) H3) X else u none X) r) vs [] Qf H0)
  (fin:∀l d H' eZ m',Rep Z d l H'->yL κ s.heap d l.heap->d D=none->Acc l.heap eZ->wN d l.heap a.locals m'->Qf eZ H'->RR (.ok .next) l):
  qW6 (model O7 Z.w) A c RR S:=by
 refine codeAny_loop hc (CI Z κ s I D a.locals P Acc Lp (λrest eZ H'=>xB inv (λx u H'=>T x H' λm' r=>IT m' (λb X=>if b=true then El m' (λy H3=>u (some y) H3) X else u none X) r) rest eZ Qf H') vs) ?_ vs.length
  ⟨[],vs,t,H0,_,[],rfl,rfl,⟨Nat.le_refl _,r0,f0,k1,k2,p0,a0,l0,d0⟩,w0⟩
 intro nn l y1;obtain⟨g,rest,d,H',m',eZ,ev,en,i,w⟩:=y1;refine V _ _ _ (wpAny_noted ?_);unfold sP;refine R8 (qY9 (R8 ?_));cases rest with
 |nil=>
  have ed:vs.length=g.length:=by rw[ev,E7]
  refine W.done A _ d l H' _ hA.hd i.r w.1 i.kI (ed▸i.p) λh' tk J=>?_;refine qK (i.r.Kr (tk:=tk) i.kI z1 (λq=>W.uD _ _ q i.p) (λb o n e=>J b o n e)) λr2 _=>?_;exact S5 (fin _ d H' eZ m' r2 (i.f.Iv nI J) i.kD (j _ _ _ i.ac λo e=>J _ _ F.symm e) (Vw i.lo H J) w.2)
 |cons v rest=>
  refine W.item A _ d l H' g.length v _ hA.hd i.r w.1 i.kI i.p (by rw[ev];simp) λx h' tk ix p' J=>?_;refine qK (i.r.Kr (tk:=tk) i.kI z1 (λq=>W.uD _ _ q i.p) (λb o n e=>J b o n e)) λr2 _=>?_;have f2:=i.f.Iv nI J;have Y:=j _ h' _ i.ac λo e=>J _ _ F.symm e;refine R8 (zB5 (W.plain _ _ p') ?_);refine R8 (hT v x m' H' _ ix i.dm w.2 A _ _ d _ hA (hF.pT f2) r2 (Vw i.lo H J) ⟨z3,λh=>h.elim λ_ h=>h.elim λ_ q=>q.elim⟩ (λ_ s3 bb H3 m3 r3 N aa q3=>?_) (λ_ _ _ _ _ _ q=>q.elim));have f4:=f2.Vx nC N λh=>h.elim λ_ h=>h.elim λ_ q=>q.elim;have N:=N.ex λh=>h.elim λ_ h=>h.elim λ_ q=>q.elim;refine zH (W.live _ _ p') λoI eI=>?_;have O:=N I oI H eI i.kI;have p3:=W.frame _ _ _ p' λo e=>(N I o H e i.kI).1;refine zH (z _ _ Y) λoD eD=>?_;have ab:=(N D oD L eD i.kD).2;have ac:=j _ s3.heap _ Y λo e=>(N D o L e i.kD).1;refine R8 (hI _ _ _ q3.1 A _ _ bb s3 hA (hF.pT f4) r3 aa (λok s4 R H4 r4 U q4=>?_) (λ_ _ _ _ _ _ q=>q.elim));have K:=U I _ O.1 O.2;refine zH (z _ _ ac) λbc bd=>?_;have C:CS Z κ s I D a.locals P Acc Lp (g.length+1) R s4 H4 m3 eZ:=⟨Nat.le_succ_of_le i.le,r4,f4.trans U,K.2,(U D bc bd ab).2,W.frame _ _ _ p3 λo e=>(U I o e O.2).1,j _ s4.heap _ ac λo e=>(U D o e ab).1,wN.pT aa U,q3.2⟩;have ae:vs=(g++[v])++rest:=by rw[ev,qY5];rfl
  have len:(g++[v]).length=g.length+1:=qX E8 rfl;cases ok with
  |false=>exact R8 (S5 (S5 (pS rfl (qZ rest.length (qX en (Nat.lt_succ_self _)) ⟨g++[v],rest,R,H4,m3,eZ,ae,rfl,len.symm▸C,q4⟩))))
  |true=>
   have af:g.length<vs.length:=qX ev (qX E8 (Nat.lt_add_of_pos_right (Nat.succ_pos _)));refine R8 (ah R s4 H4 m3 eZ _ _ _ (hF.pT C.f) C.r C.lo C.dm C.kD C.ac (Nat.lt_of_le_of_lt i.le (Nat.lt_trans af ag)) q4 λs5 be H5 y r5 f7 bf bg q5=>S5 (pS rfl (qZ rest.length (qX en (Nat.lt_succ_self _)) ⟨g++[v],rest,be,H5,m3,eZ++[y],ae,rfl,⟨?_,r5,λb o e k=>?_,(f7 I _ F K.1 K.2).2,bf,?_,bg,?_,C.dm⟩,q5⟩)))
   ·exact qX (E8) (qX (E8) (Nat.add_le_add_right i.le _))
   ·refine qK (C.f b o e k) λe' k'=>?_;exact f7 b o (λq=>nD o (q▸e) (q▸k)) e' k'
   ·exact qX (len) (W.frame _ _ _ C.p λo e=>(f7 I o F e K.2).1)
   ·obtain⟨kl,mm,⟨o,es,ep,eo,rr⟩,hm⟩:=C.lo;refine qK (f7 _ o L.symm eo kl) λe' k'=>?_;exact⟨k',mm,jN o es ep e' rr,hm⟩
noncomputable def Tg.names:Tg->List Nat
 |.one k=>[k]
 |.tup ks=>ks
def Lp(t:Tg)(m:M):Prop:=∀j,j∉t.names->m j=none
noncomputable def eE(a:List (Str×NameKind))(t:Tg)(e:Expr):Bool:=match t with
 |.one k=>jM a k .local e
 |.tup tks=>eG e λb _ _=>eB a (tks.map λk=>(false,k)) b
theorem zE3:∀{a:List Nat}{vs:List AV}{m m':M},vs.length=a.length->(∀j,j∉a->m j=m' j)->ups m a vs=ups m' a vs:=by
 intro a;induction a with
 |nil=>
  intro vs m m' _ h;have:m=m':=funext λj=>h j (by simp);subst this;rfl
 |cons k a b=>
  intro vs m m' e h;cases vs with
  |nil=>simp at e
  |cons v vs=>
   refine b (by simpa using e) λj c=>?_;unfold up;by_cases q:j=k
   ·exact qX (A3 q) (qX (A3 q) rfl)
   ·exact qX (D9 q) (qX (D9 q) (h j (by simp[q,c])))
theorem Rw:∀{a:List Nat}{vs:List AV}{m:M}{j:Nat},j∉a->ups m a vs j=m j
 |[],vs,m,j,_=>by cases vs<;>rfl
 |k::a,[],m,j,_=>rfl
 |k::a,v::vs,m,j,h=>by
  simp only[E3,not_or] at h;refine qX (Rw h.2) ?_;unfold up;rw[D9 h.1]
theorem zW1:∀{a:List Nat}{vs:List AV}{m:M},vs.length=a.length->Q (ups m a vs) H->Bf F (a.map λk=>(false,k)) vs m Q H:=by
 intro a;induction a with
 |nil=>
  intro vs m e q;cases vs with
  |nil=>exact q
  |cons _ _=>simp at e
 |cons k a b=>
  intro vs m e q;cases vs with
  |nil=>simp at e
  |cons v vs=>
   exact b (m:=up m k v) (by simpa using e) q
theorem wL6{t:Tg}(u:Z.hd=none∨∃k,t=.one k)(s:zV eV F ks){target:Expr}(r:eE ks t target=true){v:AV}{x:Value}{f:M->Prop}(i:Is x v)(d:Lp t m)(w:oS t v H f):
  qF Z n eV.locals m (qY4 target eV x) H (λ_ m' b=>f m'∧b=H∧Lp t m') qM:=by
 cases t with
 |one k=>
  refine zX (kG r) λp g y z=>?_;subst g;have e:up m k v=M.one k v:=by
   funext j
   unfold up M.one;by_cases q:j=k
   ·exact qX (A3 q) (qX (A3 q) rfl)
   ·exact qX (D9 q) (qX (D9 q) (d j (by simpa[Tg.names] using q)))
  refine kW (sL s y z i ⟨qX e w,rfl,λj c=>?_⟩);unfold up;exact qX (D9 (by simpa[Tg.names] using c)) (d j c)
 |tup h=>
  refine jP (iV r) λD _ _ g l=>?_;subst g;obtain⟨a,A,E,B,o,w⟩:=w;obtain rfl:=jA A;refine zR5 (u.resolve_right λC=>zH C λ_ q=>Tg.noConfusion q) s (Q:=λm' b=>f m'∧b=H∧Lp (.tup h) m') l i B (by simpa using o) (zW1 o ⟨?_,rfl,λj c=>?_⟩)
  ·exact qX (zE3 o (m':=λ_=>none) (λj c=>d j c)) (w)
  ·exact qX (Rw (by simpa[Tg.names] using c)) (d j c)
theorem sG{tg:Tg}(hh:Z.hd=none∨∃k,tg=.one k)(O:Z.Ok)(EO:zV eV F ks){scope:Scope}(S:gS ks scope){A:O3}{E:Value->S8->Prop}{κ:Kp}{s t:S8}{N:Kp}{H1:St}{I:Addr}{inv:St->Prop}{vs:List AV}{P:Nat->Heap->Prop}
  {RR:Value->Addr->qL4->S8->Prop} {B:Sem Value} {oAcc:Obj} {e:Expr} {β:Type} {Acc:Addr->Heap->List β->Prop} {Qf:List β->St->Prop} {target:Expr} {ifs:List Expr} {emit:Value->Env->Sem Unit} {p:Pos}
  {IT:M->(Bool->St->Prop)->St->Prop} {El:M->(β->St->Prop)->St->Prop}
  (ag:∀{E:Value->S8->Prop}{s:S8}{Q:Value->S8->Prop},Q (.ref s.heap.objs.size) {s with heap:=s.heap.push oAcc}->D8 (model O7 Z.w) A B Q E s) (be:oAcc.isFreed=false)
  (aa:∀(h:Heap)(D:Addr),h.get? D=some oAcc->Acc D h [])
  (U:∀{j:Env}{it acc:Value}{R:qL4->S8->Prop}{s:S8},qW6 (model O7 Z.w) A (.compLoop e 0 it acc j) R s->(∀{E'},D8 (model O7 Z.w) A (wY5 it) (λbd u=>qW6 (model O7 Z.w) A (.compLoop e 0 bd acc j) R u) E' s)->qW6 (model O7 Z.w) A (.compStart e 0 it acc j) R s)
  (ah:∀(it:Value)(D:Addr)(j:Env)(Q:Fin->S8->Prop)(E:Value->S8->Prop)(u:S8),D8 (model O7 Z.w) A ((sP target ifs p (emit (.ref D) j) it j (.compLoop e 0 it (.ref D) j)).onRaise λx=>do qP6 x j;qU6 x) Q E u->
   D8 (model O7 Z.w) (A.under (.compLoop e 0 it (.ref D) j)) ((model O7 Z.w).den (.compLoop e 0 it (.ref D) j)) Q E u) (L:∀it acc j,(qC1 e 0 it acc j).quiet=true)
  (hA:uW Z A n) (hF:mA Z κ A s.heap) (nI:dJ κ s.heap I) (r1:Rep Z N t H1) (f1:yL κ s.heap N t.heap) (k1:N I=none) (z1:Z.h₀.get? I=none) (W:Wk Z I inv vs P) (p0:P 0 t.heap) (bf:vs.length<1000000)
  (ae:∀D h z,Acc D h z->∃o,h.get? D=some o)
  (ac:∀D h h' z,Acc D h z->(∀o,h.get? D=some o->h'.get? D=some o)->Acc D h' z)
  (Yy:eE (jJ ks scope.names) tg target=true)
  (hI:∀C m' K H',IT m' K H'->R9 Z n (some (C,m')) (xY (qX2 scope (xW eV scope.names) C eV) ifs true) H' K qM)
  (bg:∀(C D:Addr)(l:Kp)(u:S8)(H':St)(m':M)(z:List β)(K:β->St->Prop)(Qc:Unit->S8->Prop)(E:Value->S8->Prop),C≠D->Z.h₀.get? D=none->mA Z l A u.heap->Rep Z l u H'->wN l u.heap C m'->l D=none->Acc D u.heap z->z.length<1000000->El m' K H'->
   (∀V G ab y,Rep Z G V ab->(∀b o,b≠D->u.heap.get? b=some o->l b=none->V.heap.get? b=some o∧G b=none)->G D=none->Acc D V.heap (z++[y])->K y ab->Qc () V)->D8 (model O7 Z.w) A (emit (.ref D) (qX2 scope (xW eV scope.names) C eV)) Qc E u)
  (w0:xB inv (λx K H'=>oS tg x H' λm'=>IT m' (λb H2=>if b=true then El m' (λy H3=>K (some y) H3) H2 else K none H2) H') vs [] Qf H1)
  (fin:∀D C u l H' z m',Rep Z l u H'->yL κ s.heap l u.heap->dJ κ s.heap D->dJ κ s.heap C->D≠C->l D=none->Z.h₀.get? D=none->Z.h₀.get? C=none->3<D->Acc D u.heap z->wN l u.heap C m'->Qf z H'->RR (.ref D) C (.ok .next) u):
  D8 (model O7 Z.w) A B (λacc s₃=>D8 (model O7 Z.w) A (qE6 scope eV.globals (xW eV scope.names) [] eV.qual none .none (some eV)) (λj s₄=>
   qW6 (model O7 Z.w) A (.compStart e 0 (.ref I) acc {j with scope:=zQ4 scope eV}) (RR acc j.locals) s₄) E s₃) E t:=by
 refine ag ?_;refine jL (r1.free O (Nat.le_refl t.heap.objs.size)) λn0 kD zD bh=>?_;have e2:(t.heap.push oAcc).objs.size=t.heap.objs.size+1:=qW3 ..;have bb:t.heap.objs.size≤(t.heap.push oAcc).objs.size:=qX e2 (Nat.le_succ _);refine jL (r1.free O bb) λaf kC zC _=>?_;have X:t.heap.objs.size≠(t.heap.push oAcc).objs.size:=qX e2 (Nat.ne_of_lt (Nat.lt_succ_self _));refine zH (W.live _ _ p0) λoI eI=>?_;have ca:I≠t.heap.objs.size:=by intro q;rw[q,n0] at eI;exact uZ eI
 have cb:I≠(t.heap.push oAcc).objs.size:=by intro q;rw[q,af] at eI;exact uZ eI
 refine wpAny_newFunctionEnv S.cell (by intro y hy;simp at hy) (λJ cc bc=>?_) S.kind;have hk:∀b o,t.heap.get? b=some o->J.get? b=some o:=λb o e=>bc.extBut b o (by intro q;rw[q,af] at e;cases e) (S7 _ (S7 _ e));refine qK (r1.more (tk:=t.toks+([]:List (Str×Value)).length) hk) λr2 f2=>?_;have nD:=dJ.pT (λo e=>by rw[n0] at e;cases e) f1;have nC:=dJ.pT (λo e=>by rw[af] at e;cases e) f1;have lo:wN N J (t.heap.push oAcc).objs.size (λ_=>none):=⟨kC,_,cc,λk hk x e=>nomatch e⟩;have aD:=bc.extBut _ _ X (S7 _ (B3 _ be));have p1:=W.frame _ _ _ p0 λo e=>hk _ _ e;have Y:∀s4:S8,s4={t with heap:=J,toks:=t.toks+([]:List (Str×Value)).length}->
   qW6 (model O7 Z.w) A (.compLoop e 0 (.ref I) (.ref t.heap.objs.size) (qX2 scope (xW eV scope.names) (t.heap.push oAcc).objs.size eV)) (RR (.ref t.heap.objs.size) (t.heap.push oAcc).objs.size) s4:=by
  rintro s4 rfl
  have cd:=vD EO S (t.heap.push oAcc).objs.size;refine Yx (H0:=H1) (Lp:=Lp tg) (T:=λv H f=>oS tg v H λm'=>f m' H) (IT:=IT) (El:=El) (Qf:=Qf) (Acc:=Acc t.heap.objs.size) (L _ _ _) (ah _ _ _) hA hF nI nD nC ca cb X r2 (f1.trans f2) k1 kD z1 zC W p1 (aa _ _ aD) lo (λ_ _=>rfl) bf (ae _) (ac _)
   (λv x m H' f i d w=>(wL6 hh cd Yy i d w).mono (λ_ m' ab q=>⟨by obtain⟨a,rfl,c⟩:=q;exact a,q.2.2⟩) λ_ _ r=>r) (hI _) (λl u H' m' z K Qc E a b c _ d e f g h=>bg _ _ l u H' m' z K Qc E X.symm zD a b c d e f g h) w0 (λu l H' z m' a b c d e f=>fin _ _ u l H' z m' a b nD nC X c zD zC bh d e f)
 exact U (Y _ rfl) (W.self A _ _ 0 _ hA.hd p1 (Y _ rfl))
noncomputable def Rx(a:Expr)(acc:Value)(eV:Env):Sem Unit:=eval a eV>>=λx=>call (.builtin "list.append") [acc,x]>>=λ_=>pure ()
noncomputable def Ry(c a:Expr)(acc:Value)(eV:Env):Sem Unit:=match acc with
 |.ref d=>eval c eV>>=λb=>qD0 [b] (eval a eV)>>=λe=>qH2 {c.pos with endLine:=a.pos.endLine,endCol:=a.pos.endCol}>>=λ_=>qD0 [b,e] (zQ1 d b e)
 |_=>pure ()
theorem Yj(a target iter:Expr)(ifs:List Expr)(scope:Scope)(pos:Pos)(it acc:Value)(eV:Env):
  qS5 (.ListComp a [⟨target,iter,ifs,0⟩] scope pos) 0 it acc eV=sP target ifs iter.pos (Rx a acc eV) it eV (.compLoop (.ListComp a [⟨target,iter,ifs,0⟩] scope pos) 0 it acc eV):=by
 rw[compTurn_list];unfold sP;congr 1;funext _;congr 1;funext r
 cases r with
 |none=>rfl
 |some v=>
  show(qU5 target it v>>=λ_=>_)=(qU5 target it v>>=λ_=>_);congr 1;funext _;congr 1;funext _
  show(xY eV ifs true>>=λb=>_)=(xY eV ifs true>>=λb=>_);congr 1;funext b
  cases b<;>rfl
theorem Yv(a b target iter:Expr)(ifs:List Expr)(scope:Scope)(pos:Pos)(it:Value)(D:Addr)(eV:Env):
  qS5 (.DictComp a b [⟨target,iter,ifs,0⟩] scope pos) 0 it (.ref D) eV=sP target ifs iter.pos (Ry a b (.ref D) eV) it eV (.compLoop (.DictComp a b [⟨target,iter,ifs,0⟩] scope pos) 0 it (.ref D) eV):=by
 rw[compTurn_dict];unfold sP;congr 1;funext _;congr 1;funext r
 cases r with
 |none=>rfl
 |some v=>
  show(qU5 target it v>>=λ_=>_)=(qU5 target it v>>=λ_=>_);congr 1;funext _;congr 1;funext _
  show(xY eV ifs true>>=λc=>_)=(xY eV ifs true>>=λc=>_);congr 1;funext c
  cases c<;>rfl
def Qx(D:Addr)(h:Heap)(a:List AV):Prop:=∃xs,IsL h D xs∧zK Is xs a∧a.length≤1000000
theorem Qx.keep(x:Qx D h eZ)(k:∀o,h.get? D=some o->h'.get? D=some o):Qx D h' eZ:=by
 refine qY x λa b i=>zH b λn e=>?_;exact qZ a (yU n (k _ e)) i
theorem Qx.uD(x:Qx D h eZ):∀q,¬h.CodeRec (.ref D) q:=by
 intro q b;refine Tb b λc j k t d a f l=>qY x λm g i=>zH g λn e=>?_;cases d;rw[e] at a;cases a;cases f
theorem Yu{A:O3}{C D:Addr}{a:Kp}{j:S8}{H':St}{m':M}{u:List AV}{J:AV->St->Prop}{I:Unit->S8->Prop}{E:Value->S8->Prop}{m:Expr}{h:Env}
  (K:uW Z A n) (N:mA Z a A j.heap) (r:Rep Z a j H') (lo:wN a j.heap C m') (O:Z.h₀.get? D=none) (G:a D=none) (H:Qx D j.heap u) (L:u.length<1000000) (g:R9 Z n (some (C,m')) (eval m h) H' (VQ J) qM)
  (k:∀f d l y,Rep Z d f l->(∀b o,b≠D->j.heap.get? b=some o->a b=none->f.heap.get? b=some o∧d b=none)->d D=none->Qx D f.heap (u++[y])->J y l->I () f):D8 (model O7 Z.w) A (Rx m (.ref D) h) I E j:=by
 refine R8 (g A E _ a j K N r lo (λx v w P Q z R=>?_) (λ_ _ _ _ _ _ q=>q.elim));refine qY R λy S q=>?_;obtain⟨T,U⟩:∃o,j.heap.get? D=some o:=by obtain⟨_,⟨n,e⟩,_⟩:=H;exact yU _ e
 refine qK (z D T U G) λV p=>?_;have s:=H.keep λo e=>(z D o e G).1;refine zX (id s) λt W i _=>zH W λc B=>?_;have e:=i.length;refine R8 ?_;refine qQ9 wH9 (qZ _ B rfl) wJ0 ?_ (wM0 _ _);show D8 _ _ (updateSeq D (·.push x)>>=λ_=>ret .none) _ _ v;refine R8 ?_;refine qC5 B rfl (S5 (qZ .none rfl ?_)) (hz:=by rw[O9];simp;lia);refine qK (Q.Kr (tk:=v.toks) p O s.uD ((A5 ..).extBut) (h':=v.heap.update D (Obj.mapSeq (·.push x)))) λX Y=>?_;have F:Qx D (v.heap.update D (Obj.mapSeq (·.push x))) (u++[y]):=by
  refine zU (t++[x]) (yU (if(t.toArray.push x).size==t.toArray.size then c else c+1) ?_) (i.append (.cons S .nil)) (by simp;exact Nat.le_of_lt_succ L);refine qX (D7 _ B rfl) ?_;have:(t++[x]).toArray=t.toArray.push x:=by simp
  exact qX this rfl
 refine S5 (k _ w P y X (λb o n e k=>?_) p F q);refine qK (z b o e k) λe' k'=>?_;exact Y b o n e' k'
theorem Bb{κ a:Kp}{s c:S8}{H':St}{h':Heap}{D C:Addr}{g:List AV}{m':M}{tg:Nat}(r:Rep Z a c H')(f:yL κ s.heap a c.heap)(q:dJ κ s.heap D)(u:dJ κ s.heap C)(h:D≠C)(l:a D=none)(v:Z.h₀.get? D=none)(n:Z.h₀.get? C=none)(p:3<D)
  (t:Qx D c.heap g) (lo:wN a c.heap C m') (j:qG0 C c.heap h'):
  Rep Z (wM a D (.lst tg g)) {c with heap:=h'} (H'.qQ tg D g)∧yL κ s.heap (wM a D (.lst tg g)) h':=by
 obtain⟨w,J,⟨o,x,y,z,A,_⟩,_⟩:=lo;refine qK (r.Fc (tk:=c.toks) w n (jN o x y z A) j.extBut) λm K=>?_;have d:=t.keep λo e=>j.extBut D o h e;refine zX (id d) λB E i L=>?_;refine⟨m.adopt l v p d.uD (zU B E i (by lia)) ((m.view.fresh l).cE (zG ..)),λb o e k=>?_⟩;refine qK (f b o e k) λF G=>?_;have H:b≠C:=by rintro rfl;exact u o e k
 have I:b≠D:=by rintro rfl;exact q o e k
 exact⟨j.extBut b o H F,qX (zM I) G⟩
theorem Iu(it acc:Value)(a:Env):(qC1 (.ListComp elt gs scope pos) 0 it acc a).quiet=true:=rfl
theorem Il(it acc:Value)(a:Env):(qC1 (.DictComp kx vx gs scope pos) 0 it acc a).quiet=true:=rfl
theorem zL0(hh:Z.hd=none)(O:Z.Ok)(R:zV eV F ks){scope:Scope}(S:gS ks scope){d iter target:Expr}{ifs:List Expr}{pos:Pos}{tag:Nat}{tg:Tg}{Q:AV->St->Prop}{IT:M->(Bool->St->Prop)->St->Prop}{El:M->(AV->St->Prop)->St->Prop}
  (hp:yY iter=true) (Yy:eE (jJ ks scope.names) tg target=true)
  (hI:∀C m' c H',IT m' c H'->R9 Z n (some (C,m')) (xY (qX2 scope (xW eV scope.names) C eV) ifs true) H' c qM)
  (hE:∀C m' c H',El m' c H'->R9 Z n (some (C,m')) (eval d (qX2 scope (xW eV scope.names) C eV)) H' (VQ c) qM)
  (hS:kX Z n lc (eval iter eV) H (λvs inv T=>vs.length<1000000∧xB inv (λx c H'=>oS tg x H' λm'=>IT m' (λb U=>if b=true then El m' (λy H3=>c (some y) H3) U else c none U) H') vs []
   (λg H'=>∀l,qD H' l->Q (.ref l) (H'.qQ tag l g)) T)):
  R9 Z n lc (eval (.ListComp d [⟨target,iter,ifs,0⟩] scope pos) eV) H (VQ Q) qM:=by
 rw[eval_ListComp];intro A E V κ s j X hR hl kq kx;refine qV9 (use:=none) (cl:=xW eV scope.names) rfl (tH hp eV) (lL λx hx k=>R.has _ (S.free x hx k)) S.kind S.N9 ?_;refine hS A E _ κ s j X hR hl λI s1 aa T vs inv P r1 f1 nI k1 z1 W p1 q1=>?_;refine qK q1 λm w=>?_;exact sG (Acc:=Qx) (emit:=Rx d) (p:=iter.pos) (RR:=λo C=>zM0 (model O7 Z.w) A E none V o C) (oAcc:={cls:=.type "list",data:=.seq ([]:List Value).toArray}) (.inl hh) O R S
  (λh=>qG7 h (by decide)) rfl (λh D e=>(zU ([]) (yU 0 e) .nil (by simp))) (λa b=>zQ5 a b) (λit D f Q E r h=>by
   show D8 _ A ((qS5 (.ListComp d [⟨target,iter,ifs,0⟩] scope pos) 0 it (.ref D) f).onRaise (λx=>do qP6 x f;qU6 x)) _ _ r;rw[Yj];exact h) (λ_ _ _=>Iu ..) j X nI r1 f1 k1 z1 W p1 m (λD h g a=>by obtain⟨_,⟨n,e⟩,_⟩:=a;exact(yU _ e)) (λD h h' g a k=>a.keep k) Yy hI
  (λC D t r H' m' g c V E ab u v i z B G J K k'=>Yu j v i z u B G J (hE C m' c H' K) k') w
  (λD C r t H' g m' i f' nD nC L Y u zC h3 ac lo q=>by
   obtain⟨kC,mm,N,_⟩:=id lo;refine qZ mm N (λh' hs=>?_);refine qK (Bb (tg:=tag) i f' nD nC L Y u zC h3 ac lo hs) λr2 f2=>?_;exact kq _ _ _ _ r2 f2 (qZ _ (.ref D) (q D (xL i.view Y))))
theorem eO{tg:Tg}(hh:Z.hd=none∨∃k,tg=.one k)(O:Z.Ok)(G:zV eV F ks){scope:Scope}(S:gS ks scope){d iter target:Expr}{ifs:List Expr}{pos u v:Pos}{tag y:Nat}{Q:Flow->M->St->Prop}{IT:M->(Bool->St->Prop)->St->Prop}{El:M->(AV->St->Prop)->St->Prop}
  (hy:y<NN) (J:ks.lookup (nm y)=some .local) (K:(v.line==pos.line)=true) (aa:(scope.names.any λx=>x.1==nm y&&(x.2==.local||x.2==.cell))=false)
  (hp:yY iter=true) (Yy:eE (jJ ks scope.names) tg target=true)
  (hI:∀C m' r H',IT m' r H'->R9 Z n (some (C,m')) (xY (qX2 scope (xW eV scope.names) C eV) ifs true) H' r qM)
  (hE:∀C m' r H',El m' r H'->R9 Z n (some (C,m')) (eval d (qX2 scope (xW eV scope.names) C eV)) H' (VQ r) qM)
  (hS:kX Z n (some (eV.locals,m)) (eval iter eV) H (λvs inv H1=>vs.length<1000000∧xB inv (λx r H'=>oS tg x H' λm'=>IT m' (λb H2=>if b=true then El m' (λy H3=>r (some y) H3) H2 else r none H2) H') vs []
   (λf H'=>∀l,qD H' l->Q .next (up m y (.ref l)) (H'.qQ tag l f)) H1)):
  qF Z n eV.locals m (exec (.Assign [.Name (nm y) v] (.ListComp d [⟨target,iter,ifs,0⟩] scope pos) u) eV) H Q qM:=by
 have ab:qF3 (.ListComp d [⟨target,iter,ifs,0⟩] scope pos) (some (.Name (nm y) v)) u.line eV=pure true:=by
  show(pure (eV.blockKind==.function&&eV.kindOf (nm y)==some .local&&v.line==pos.line&&!(scope.names.any λx=>x.1==nm y&&(x.2==.local||x.2==.cell))):Sem Bool)=pure true;have hb:eV.blockKind=.function:=by
   unfold Env.blockKind;refine qX (G.kind) ?_;simp
  have hk:eV.kindOf (nm y)=some .local:=by unfold qX9;exact qX G.names J
  refine qX (hb) (qX (hk) (qX (K) (qX (aa) ?_)));rfl
 refine qX (exec_Assign_Name_used _ _ _ _ ab) ?_;intro A E Qc κ s hA hF hR hl h0 kq kx;refine R8 (qY9 (R8 ?_));show D8 _ A (do let _<-comprehension (.ListComp d [⟨target,iter,ifs,0⟩] scope pos) scope eV _ (wJ1 []) false (eval iter eV) (some (qY4 (.Name (nm y) v) eV))) _ _ s;refine R8 (wpAny_mono (qV9 (use:=some (qY4 (.Name (nm y) v) eV)) (cl:=xW eV scope.names) (Q:=λ_ j=>Qc .next j) rfl (tH hp eV) (lL λx hx k=>G.has _ (S.free x hx k)) S.kind S.N9 ?_) (λ_ j hq=>S5 (S5 hq)) λ_ _ e=>e);refine hS A E _ κ s hA hF hR hl λI s1 dd H1 vs inv P r1 f1 nI k1 z1 W p1 q1=>?_;refine qK q1 λae w=>?_;clear q1;exact sG (Acc:=Qx) (emit:=Rx d) (p:=iter.pos) (RR:=λaf C=>zM0 (model O7 Z.w) A E (some (qY4 (.Name (nm y) v) eV)) (λ_ j=>Qc .next j) af C) (oAcc:={cls:=.type "list",data:=.seq ([]:List Value).toArray}) hh O G S
  (λh=>qG7 h (by decide)) rfl (λh D e=>(zU ([]) (yU 0 e) .nil (by simp))) (λa b=>zQ5 a b) (λit D z Q E j h=>by
   show D8 _ A ((qS5 (.ListComp d [⟨target,iter,ifs,0⟩] scope pos) 0 it (.ref D) z).onRaise (λx=>do qP6 x z;qU6 x)) _ _ j;rw[Yj];exact h) (λ_ _ _=>Iu ..) hA hF nI r1 f1 k1 z1 W p1 ae (λD h f a=>by obtain⟨_,⟨n,e⟩,_⟩:=a;exact(yU _ e)) (λD h h' f a k=>a.keep k) Yy hI
  (λC D B j H' m' f r Qc E de zD ag L ah bb bc bd be N=>Yu hA ag L ah zD bb bc bd (hE C m' r H' be) N) w
  (λD C j B H' f m' L f' nD nC bf kD zD zC h3 ac lo q=>by
   refine zX (id ac) λxs hx i il=>?_;have r2:=L.adopt (c:=.lst tag f) kD zD h3 ac.uD (zU xs hx i (by lia)) ((L.view.fresh kD).cE (t:=tag) (vs:=f) (zG ..));have f2:yL κ s.heap (wM B D (.lst tag f)) j.heap:=λb o e k=>by
    refine qK (f' b o e k) λe' N=>?_;exact⟨e',qX (zM (by rintro rfl;exact nD o e k)) N⟩
   have bg:=wN.pT hl f2;obtain⟨kl,mL,⟨oL,df,dg,eL,rL⟩,dh⟩:=id hl;have R:eV.locals≠C:=by intro q;rw[q] at eL kl;exact nC _ eL kl
   have ea:eV.locals≠D:=by intro q;rw[q] at eL kl;exact nD _ eL kl
   have bh:wN (wM B D (.lst tag f)) j.heap C m':=by
    obtain⟨kC,mm,T,hm⟩:=lo;exact⟨qX (zM bf.symm) kC,mm,T,hm⟩
   have g:qF Z n eV.locals m (qY4 (.Name (nm y) v) eV (.ref D)) (H'.qQ tag D f) (λ_ m3 H3=>m3=up m y (.ref D)∧H3=H'.qQ tag D f) qM:=kW (sL G hy J (.ref D) ⟨rfl,rfl⟩);refine g A E _ _ j hA (hF.pT f2) r2 bg h0 (λ_ s3 U H3 m3 r3 f3 ca q3=>?_) (λ_ _ _ _ _ _ q=>q.elim);refine qK q3 λz1 z2=>?_;clear q3;subst z1;subst z2;obtain⟨kC,mm,⟨oC,V,X,eC,rC⟩,hm⟩:=id bh;refine qK (f3.at R.symm eC kC λ⟨_,_,q⟩=>q.elim) λY cb=>?_;refine qZ mm (jN oC V X Y rC) (λh' hs=>?_);refine qK (r3.Fc (tk:=s3.toks) cb zC (jN oC V X Y rC.1) hs.extBut) λr4 f4=>?_;have f5:vN (∃e H,qM e H) eV.locals κ s.heap U h':=λb o n e k=>by
    refine qK (f2 b o e k) λe' N=>qK (f3.at n e' N λ⟨_,_,q⟩=>q.elim) λcc cd=>qK (f4 b o (by rintro rfl;exact nC o e k) cc cd) λe3 k3=>?_;exact pS k3 (qZ o.slots e3 (λ_=>rfl))
   have ce:wN U h' eV.locals (up m y (.ref D)):=by
    obtain⟨cf,cg,⟨o3,ch,da,e3,db⟩,dc⟩:=ca;exact⟨cf,cg,jN o3 ch da (hs.extBut _ _ R e3) db,dc⟩
   exact kq _ _ _ _ _ r4 f5 ce (q D (xL L.view kD)))
def aS(w:qQ2)(D:Addr)(h:Heap)(a:List (Nat×AV)):Prop:=∃kvs,h.DictOf (SK w) D kvs∧zK pK kvs (vC a)
theorem aS.keep(x:aS w D h eZ)(k:∀o,h.get? D=some o->h'.get? D=some o):aS w D h' eZ:=by
 refine qY x λa b i=>jP b λo c d e r=>?_;exact qZ a (jN o c d (k _ e) r) i
theorem aS.uD(x:aS w D h eZ):∀q,¬h.CodeRec (.ref D) q:=by
 refine qY x λa b i=>Ts b λo c f e _ d r=>?_;exact uS (jN o c f e d)
theorem aS.live(x:aS w D h eZ):∃o,h.get? D=some o:=by
 refine qY x λa b i=>jP b λo c d e _=>?_;exact⟨o,e⟩
theorem Yk{A:O3}{C D:Addr}{c:Kp}{l:S8}{H':St}{m':M}{u:List (Nat×AV)}{R:Nat×AV->St->Prop}{N:Unit->S8->Prop}{E:Value->S8->Prop}{J O:Expr}{d:Env}
  (K:uW Z A n) (P:mA Z c A l.heap) (r:Rep Z c l H') (lo:wN c l.heap C m') (V:Z.h₀.get? D=none) (I:c D=none) (L:aS Z.w D l.heap u)
  (g:∃k,R9 Z n (some (C,m')) (eval J d) H' (VQ λa Q=>a=.str k∧R9 Z n (some (C,m')) (eval O d) Q (VQ λy v=>R (k,y) v) qM) qM)
  (k:∀j h m y,Rep Z h j m->(∀b o,b≠D->l.heap.get? b=some o->c b=none->j.heap.get? b=some o∧h b=none)->h D=none->aS Z.w D j.heap (u++[y])->R y m->N () j):D8 (model O7 Z.w) A (Ry J O (.ref D) d) N E l:=by
 refine zH g λw g=>?_;refine R8 (g A E _ c l K P r lo (λx W z Q X B S=>?_) (λ_ _ _ _ _ _ q=>q.elim));refine zX S λa Y F g2=>?_;clear S;subst F;refine qY Y.pF λt F hk=>?_;subst F;refine R8 (O4 (g2 A E _ z W K (P.pT B) X (wN.pT lo B) (λy s3 G v r3 f3 T=>?_) (λ_ _ _ _ _ _ q=>q.elim)));refine qY T λb ib q=>?_;clear T;have f:=B.trans f3;refine zH L.live λoD eD=>qK (f D oD eD I) λaa p=>?_;have s:=L.keep λo e=>(f D o e I).1;refine qY (id s) λH U i=>?_;have hb:H.length≤sizeLine:=by
  refine tZ (id U) λ_ _ _ _ _ _ _ _ hn=>?_;have:=lZ i hn;have e:NN=267:=rfl;refine qX O9 ?_;lia
 refine R8 (qY9 (O4 (zS5 (knd:=SK Z.w) (qW1 O7 Z.w _ _) U (λh' hd hs=>?_) hb)));refine qK (r3.Kr (tk:=s3.toks+1) p V s.uD hs.extBut) λr4 f4=>?_;refine k _ G v (w,b) r4 (λb o n e k=>?_) p (qZ _ hd ?_) q
 ·refine qK (f b o e k) λe' k'=>?_;exact f4 b o n e' k'
 ·have:vC (u++[(w,b)])=qJ9 (vC u) w b:=by simp[vC]
  refine qX this ?_;exact uT i hk ib
theorem zP0(hh:Z.hd=none)(O:Z.Ok)(EO:zV eV F ks){scope:Scope}(S:gS ks scope){r u iter target:Expr}{pos:Pos}{tag:Nat}{tg:Tg}{Q:AV->St->Prop}{El:M->(Nat×AV->St->Prop)->St->Prop}
  (hp:yY iter=true) (Yy:eE (jJ ks scope.names) tg target=true)
  (hE:∀C m' d H',El m' d H'->∃k,R9 Z n (some (C,m')) (eval r (qX2 scope (xW eV scope.names) C eV)) H' (VQ λa H2=>a=.str k∧R9 Z n (some (C,m')) (eval u (qX2 scope (xW eV scope.names) C eV)) H2 (VQ λy B=>d (k,y) B) qM) qM)
  (hS:kX Z n lc (eval iter eV) H (λvs inv H1=>vs.length<1000∧xB inv (λx d H'=>oS tg x H' λm'=>El m' (λy B=>d (some y) B) H') vs []
   (λg H'=>∀l,qD H' l->Q (.ref l) (H'.xV tag l (vC g))) H1)):
  R9 Z n lc (eval (.DictComp r u [⟨target,iter,[],0⟩] scope pos) eV) H (VQ Q) qM:=by
 intro A E Qc κ s G hF hR hl kq ae;refine qV9 (use:=none) (cl:=xW eV scope.names) rfl (tH hp eV) (lL λx J k=>EO.has _ (S.free x J k)) S.kind S.N9 ?_;refine hS A E _ κ s G hF hR hl λI s1 af H1 vs inv P r1 f1 nI k1 z1 W p1 q1=>?_;refine qK q1 λag w=>?_;clear q1;exact sG (Acc:=aS Z.w) (emit:=Ry r u) (p:=iter.pos) (tg:=tg) (IT:=λ_ d H'=>d true H') (El:=El) (RR:=λK C=>zM0 (model O7 Z.w) A E none Qc K C) (oAcc:={cls:=.type "dict",data:=.dict #[]}) (.inl hh) O EO S
  (λh=>qQ4 h (by first|trivial|exact Nat.zero_le _|(unfold sizeOk;simp))) rfl (λh D e=>(qZ ([]) (cM _ _ _ e ⟨rfl,rfl,rfl⟩ rfl (λe he=>by simp at he) .nil (by simp)) .nil)) (λa b=>zQ6 a b) (λit D f Q E v h=>by
   show D8 _ A ((qS5 (.DictComp r u [⟨target,iter,[],0⟩] scope pos) 0 it (.ref D) f).onRaise (λx=>do qP6 x f;qU6 x)) _ _ v;rw[Yv];exact h) (λ_ _ _=>Il ..) G hF nI r1 f1 k1 z1 W p1 (by lia) (λD h g a=>a.live) (λD h h' g a k=>a.keep k) Yy (λC m' d H' q=>nV q)
  (λC D L v H' m' g d Qc E ah N R z T U V bb X Y=>Yk G R z T N U V (hE C m' d H' X) Y) (by simpa using w)
  (λD C v L H' g m' z f' nD nC aa kD N zC h3 ac lo q=>by
   obtain⟨kC,mm,j,_⟩:=id lo;refine qZ mm j (λh' hs=>?_);refine gL j λo es ep e1 e2 _=>?_;clear j;refine qK (z.Fc (tk:=v.toks) kC zC (jN o es ep e1 e2) hs.extBut) λr2 f2=>?_;have m:=ac.keep λo e=>hs.extBut D o aa e;refine qY (id m) λab J i=>?_;have r3:=r2.adopt (c:=.sd tag (vC g)) kD N h3 m.uD (qZ ab J i) ((r2.view.fresh kD).Es (t:=tag) (l:=vC g) (zG ..));refine kq _ _ _ _ r3 (λb o e k=>?_) (qZ _ (.ref D) (q D (xL z.view kD)));refine qK (f' b o e k) λe' Y=>?_;have b1:b≠C:=by rintro rfl;exact nC o e k
   have b2:b≠D:=by rintro rfl;exact nD o e k
   exact⟨hs.extBut b o b1 e',(qX (zM b2) Y)⟩)
theorem Ip{w:qQ2}{A:O3}{E:Value->S8->Prop}{s:S8}{d:Addr}{xs:List (List (Option Str)×Addr×Value)}{Q:Value->S8->Prop}(hd:(d==qH3)=false)(hm:fO w s.heap d xs)
  (hQ:Q (.ref s.heap.objs.size) {s with heap:=s.heap.push {cls:=.type "dict_keyiterator",data:=.fields #[.ref d,.int 0 0,.int xs.length 0,.int xs.length 0]}}):
  D8 (model O7 w) A (wY5 (.ref d)) Q E s:=by
 have hT:=hm.Jk.typeIs;refine Tr hm λo es ho hc hdat he his hn=>?_;refine wpAny_pyIter_slot hT F.slot_dict_iter (qQ9 F.slot_dict_iter hT F.entry_dict_iter ?_ (F.args_dict_iter_1 _));unfold Builtin.«dict.__iter__»;refine R8 ?_;unfold zQ0.Dict.dictSlotNone;refine R8 (zZ3 hT ?_);show D8 _ _ (pure (Value.ref d)) _ _ s;refine S5 ?_;show D8 _ _ (qR5 d>>=_) _ _ s;unfold qR5;rw[D9 (by rw[hd];exact Bool.false_ne_true)];refine R8 (S5 ?_);refine R8 (qS6 ho hdat ?_);refine R8 (qC6 ho hdat ?_);have hsz:es.size=xs.length:=qH5 he;refine R8 (qQ4 (S5 (qZ _ rfl (xO ("dict_keyiterator") _ (qZ _ (B3 _ rfl) rfl) F.slot_dict_keyiterator_next.lookup ?_))));simpa[qZ2,hsz] using hQ
theorem zO6{w:qQ2}{A:O3}{E:Value->S8->Prop}{s:S8}{it d:Addr}{i:Nat}{a:List (List (Option Str)×Addr×Value)}{x:List (Option Str)×Addr×Value}{Q:Option Value->S8->Prop}(hit:s.heap.IsKeyIter it d i a.length a.length)
  (t:fO w s.heap d a) (q:a[i]?=some x) (u:∀h',h'.IsKeyIter it d (i+1) a.length a.length->qG0 it s.heap h'->Q (some (.ref x.2.1)) {s with heap:=h'}):
  D8 (model O7 w) A (qR4 (.ref it)) Q E s:=by
 refine zX (id hit) λo m v l=>Tr (id t) λB e f y g r z C=>?_;unfold qR4;refine R8 (qN7 (qY0 (name:=Str.ofString "__next__") hit.typeIs F.slot_dict_keyiterator_next
  (qQ9 F.slot_dict_keyiterator_next hit.typeIs F.entry_dict_keyiterator_next ?_ (F.args_dict_keyiterator_next_1 _))))
 refine R8 (S5 ?_);refine R8 ?_;refine R8 ?_;first|refine R8 (qY2 hit.typeIs (S5 ?_))|refine R8 (qU0 hit.typeIs (S5 ?_))
 refine R8 (wpAny_fieldsOf m l ?_);have h:qG2 "dict_keyiterator"=false:=by decide
 refine qX h ?_;show D8 _ _ (if(Value.ref d==Value.none)=true then _ else _) _ _ s;refine qX (D9 (show¬((Value.ref d==Value.none)=true) from Bool.false_ne_true)) ?_;refine R8 (S5 ?_);refine R8 (qS6 f g ?_);have j:=qH5 r;refine qX (D9 (by rw[j];simp)) ?_;refine R8 (S5 ?_);refine R8 (qC6 f g ?_);refine qX (D9 (by simp)) ?_;refine S5 ?_;have n:=(C7.mp q).1;have b:i<e.size:=qX j n;have k:e[i].key=.ref x.2.1:=by
  have p:e.toList[i]?=some e[i]:=by simp[b]
  rw[r,D4,q] at p;simp only[qN5,qK9] at p;exact qX (C6 (p)) rfl
 dsimp only;refine qX (show(if(i:Int)<0 then none else e[(i:Int).toNat]?)=some e[i] from qX (D9 (Int.not_lt.mpr (Int.natCast_nonneg i))) (qJ3 b)) ?_;refine R8 ?_;first|refine R8 (qY2 hit.typeIs (S5 ?_))|refine R8 (qU0 hit.typeIs (S5 ?_))
 refine R8 (zZ4 hit.typeIs ?_);show D8 _ _ (setField (.ref it) 1 (qZ2 ((i:Int)+1))>>=_) _ _ s;refine R8 (qV0 m l (by simp) ?_);have c:(s.heap.update it (Obj.mapFields (·.setIfInBounds 1 (qZ2 ((i:Int)+1))))).IsKeyIter it d (i+1) a.length a.length:=
  (zU _ (D7 _ m (Obj.isFreed_of_fields (Obj.data_mapFields l _))) ((Obj.cls_mapFields ..).trans v) (by rw[Obj.data_mapFields l];simp[qZ2]))
 refine R8 (O4 ?_);refine R8 (zZ4 (s:={s with heap:=s.heap.update it (Obj.mapFields (·.setIfInBounds 1 (qZ2 ((i:Int)+1))))}) c.typeIs ?_);refine qX (k) ?_;exact S5 (S5 (qZ _ rfl (S5 (u _ c (A5 ..)))))
theorem wU9{w:qQ2}{A:O3}{E:Value->S8->Prop}{s:S8}{it d:Addr}{i:Nat}{h:List (List (Option Str)×Addr×Value)}{Q:Option Value->S8->Prop}(q:A.handled=none)(hit:s.heap.IsKeyIter it d i h.length h.length)
  (r:fO w s.heap d h) (p:h.length≤i) (t:∀h',qW0 it s.heap h'->Q none {s with heap:=h'}):
  D8 (model O7 w) A (qR4 (.ref it)) Q E s:=by
 refine zX (id hit) λo k y l=>Tr (id r) λz n c u e v x B=>?_;unfold qR4;refine R8 (qN7 (qY0 (name:=Str.ofString "__next__") hit.typeIs F.slot_dict_keyiterator_next
  (qQ9 F.slot_dict_keyiterator_next hit.typeIs F.entry_dict_keyiterator_next ?_ (F.args_dict_keyiterator_next_1 _))))
 refine R8 (S5 ?_);refine R8 ?_;refine R8 ?_;first|refine R8 (qY2 hit.typeIs (S5 ?_))|refine R8 (qU0 hit.typeIs (S5 ?_))
 refine R8 (wpAny_fieldsOf k l ?_);have f:qG2 "dict_keyiterator"=false:=by decide
 refine qX f ?_;show D8 _ _ (if(Value.ref d==Value.none)=true then _ else _) _ _ s;refine qX (D9 (show¬((Value.ref d==Value.none)=true) from Bool.false_ne_true)) ?_;refine R8 (S5 ?_);refine R8 (qS6 c e ?_);have g:=qH5 v;refine qX (D9 (by rw[g];simp)) ?_;refine R8 (S5 ?_);refine R8 (qC6 c e ?_);refine qX (D9 (by simp)) ?_;refine S5 ?_;have j:n.size≤i:=qX g p;dsimp only;refine qX (show(if(i:Int)<0 then none else n[(i:Int).toNat]?)=none from qX (D9 (Int.not_lt.mpr (Int.natCast_nonneg i))) (Array.getElem?_eq_none j)) ?_;refine R8 ?_;first|refine R8 (qY2 hit.typeIs (S5 ?_))|refine R8 (qU0 hit.typeIs (S5 ?_))
 show D8 _ _ (setField (.ref it) 0 .none>>=_) _ _ s;refine R8 (qV0 k l (by simp) ?_);refine R8 ?_;simp only[newExc,qM6];refine R8 (qQ4 ?_ (by size_fits));refine R8 (m:=qM8 _ _) (qM7 (a:=Value.none) (by first|rfl|(simp only[qM8];rfl)) ?_);refine qQ4 ?_ (by size_fits);unfold raiseNew;refine R8 (wpAny_handled ?_);refine qX (show A.in1.handled=none from q) ?_;refine R8 (S5 (wpAny_throw ?_));refine R8 (wM2 (T:="StopIteration") (b:=true) (qZ _ (B3 _ rfl) rfl) isSubtype_stop ?_);exact S5 (t _ (((A5 ..).extBut.push _).push _))
theorem zK.mem_at(h:zK Fb xs l):∀{i:Nat}{v:AV},(l.map λp=>AV.ref p.2.1)[i]?=some v->∃x,xs[i]?=some x∧v=.ref x.2.1:=by
 induction h with
 |nil=>intro i v e;simp at e
 |cons f _ a=>
  intro i v e;cases i with
  |zero=>simp at e;exact qZ _ rfl (qX f.at_ e.symm)
  |succ i=>simpa using a (by simpa using e)
theorem Wk.qk(hz:Z.hd=none)(C:a≠I):Wk Z I (λH'=>H'.td tg a=some l) (l.map λp=>AV.ref p.2.1) (λi h=>h.IsKeyIter I a i l.length l.length) where
 frame:=λi h t f k=>qY f λo e r=>qZ o (k o e) r
 live:=λi h f=>qY f λo e r=>yU o e
 plain:=λi h f=>zX f λo e c d=>xO o _ e c (by decide)
 self:=λA E s i Q _ g D=>wpAny_pyIter_keyiter g D
 uD:=λi h q f=>zX f λo e c d=>hJ e d (by simp) q
 nd:=λi h f=>zX f λo e c d=>Lv e d
 item:=λA E F s H i v Q B w y G g J k=>by
  refine qK (Js w y) λj _=>qY j λK z u=>?_;have m:=u.length;rw[<-m] at g;refine qY (u.mem_at J) λx L j=>?_;subst j;refine zO6 g z L λt hit M=>k _ t s.toks (.ref _) (qX (C6 (m)) hit) λb o n e=>M.extBut b o n e
 done:=λA E F s H Q B w y G g k=>by
  refine qK (Js w y) λj _=>qY j λK z u=>?_;have m:=u.length;rw[<-m] at g;exact wU9 (B.trans hz) g z (by simp[m]) λt N=>k t s.toks λb o n e=>N b o n e
theorem wG6(hz:Z.hd=none)(O:Z.Ok)(i:Is v (.ref a))(h:H.td tg a=some l)(q:Q (l.map λp=>AV.ref p.2.1) (λH'=>H'.td tg a=some l) H):Pit Z n lc v H Q:=by
 obtain rfl:=i.zT;intro A E z B s C D c f k;refine qK (Js c h) λg r=>qY g λj d t=>?_;clear g;have f:=t.length;refine jL (c.free O (Nat.le_refl s.heap.objs.size)) λm u w _=>?_;refine Ip r d ?_;refine qK (c.more (tk:=s.toks) (h':=s.heap.push {cls:=.type "dict_keyiterator",data:=.fields #[.ref a,.int 0 0,.int j.length 0,.int j.length 0]}) (λb o e=>S7 _ e)) λx y=>?_;refine k _ _ _ _ _ _ _ x y (λo e=>by rw[m] at e;cases e) u w (Wk.qk hz (a:=a) (tg:=tg) (l:=l) ?_) (qX (C6 (f)) (zU _ (B3 _ rfl) rfl rfl)) q
 rintro rfl
 refine yX d λo F e _=>?_;clear d;rw[m] at e;cases e
end
section
open PySem.Calls PySem.Spec PySem.MeetsSeq PySem.SeqAt
theorem zX5{w:qQ2}{A:O3}{s:S8}(l:Addr)(items:Array Value)(n:Nat)(x:Value)(e:Value->Bool)(j:Nat)(v:j<items.size)(D:∀m(y:m<items.size),m≤j->EqAt A.in1 s items[m] x (e items[m]))(hit:e items[j]=true)(p:items.size≤sizeLine)
  (r:s.heap.get? l=some {cls:=.type "list",dict:=none,data:=.seq items n,slots:=#[]}) (k:Nat):
  ∀(i:Nat)(R:qL4->S8->Prop),j-i=k->i≤j->(∀m(y:m<items.size),i≤m->m<j->e items[m]=false)->R (.ok (.ret .none)) {s with heap:=s.heap.update l (Obj.mapSeq λE=>E.eraseIdxIfInBounds j)}->
   D8 (model O7 w) A.in1 (Builtin.«list.remove.loop» ⟨[.ref l,x,qZ2 i],[]⟩) (λfin t=>match fin with|.done f=>R (.ok f) t|.again c'=>c'.quiet=true∧qW6 (model O7 w) A c' R t) (λe t=>R (.error e) t) s:=by
 induction k with
 |zero=>
  intro i R u a c h;obtain⟨F,g,d,tk,os⟩:=s;have q:i=j:=Nat.le_antisymm a (Nat.sub_eq_zero_iff_le.mp u);subst q
  wp_walk using qH6 r
  have z:items[((i:Nat):Int).toNat]?=some items[i]:=by simp[v]
  refine qX (z) ?_;refine R8 (D _ v (Nat.le_refl _) O7 w _ _ ?_);refine qX (hit) ?_;have B:(items.eraseIdxIfInBounds i).size≤sizeLine+1:=Nat.le_trans (size_erased items _) (Nat.le_succ_of_le p)
  wp_walk using(qC5 r rfl (hz:=p) (_hz':=B)),qH6 r
  simpa using h
 |succ k G=>
  intro i R u a c h;have b:i<j:=Nat.sub_ne_zero_iff_lt.mp (u▸Nat.succ_ne_zero k);have C:=G (i+1) R (qX (Nat.sub_sub j i 1).symm (qX u rfl)) b (λm y H I=>c m y (by exact Nat.le_of_lt H) I) h;obtain⟨F,g,d,tk,os⟩:=s;have o:i<items.size:=Nat.lt_of_le_of_lt a v
  wp_walk using qH6 r
  have z:items[((i:Nat):Int).toNat]?=some items[i]:=by simp[o]
  have J:((i:Int)+1)=((i+1:Nat):Int):=by push_cast;rfl
  refine qX (z) ?_;refine R8 (D _ o (by exact a) O7 w _ _ ?_);refine qX (c i o (Nat.le_refl _) b) ?_
  wp_walk
  refine qX (J) ?_;exact⟨plainId_quiet plain_remove_loop _,qP2 entry_remove_loop (by
   refine qX (qG9 plain_remove_loop _) ?_;exact C)⟩
theorem zW6{w:qQ2}{A:O3}{E:Value->S8->Prop}{s:S8}{Q:Value->S8->Prop}(l:Addr)(items:Array Value)(n:Nat)(x:Value)(e:Value->Bool)(j:Nat)(hj:j<items.size)(he:∀m(hm:m<items.size),m≤j->EqAt A.in1 s items[m] x (e items[m]))(hit:e items[j]=true)
  (hno:∀m(hm:m<items.size),m<j->e items[m]=false) (hs1:items.size≤sizeLine) (hl:s.heap.get? l=some {cls:=.type "list",dict:=none,data:=.seq items n,slots:=#[]})
  (h:Q .none {s with heap:=s.heap.update l (Obj.mapSeq λxs=>xs.eraseIdxIfInBounds j)}):D8 (model O7 w) A (call (.builtin "list.remove") [.ref l,x]) Q E s:=by
 refine qV1 (qL7 PySem.F.slot_list_remove.plain PySem.F.entry_list_remove (PySem.F.slot_list_remove.check _ _ _ _ _ _ _ _ ((qZ _ hl rfl):s.TypeIs (.ref l) "list") (PySem.F.args_list_remove_2 _ _) ?_));obtain⟨hp,g,d,tk,os⟩:=s
 wp_walk using qH6 hl
 exact⟨plainId_quiet plain_remove_loop _,qP2 entry_remove_loop (by
  refine qX (qG9 plain_remove_loop _) ?_;exact zX5 l items n x e j hj he hit hs1 hl _ 0 (wants Q E) rfl (Nat.zero_le _) (λm hm _ h2=>hno m hm h2) h)⟩
noncomputable def Ig(H:St)(us:List AV):Value->Bool
 |.ref t=>(H.tup t).elim false λa=>decide (a=us)
 |_=>false
theorem Qy(e:H.tup t=some ws):Ig H us (.ref t)=decide (ws=us):=cgA (λo:Option (List AV)=>o.elim false λws=>decide (ws=us)) e
theorem Bc(i:zK Is xs vs):∀{j:Nat},gF H us vs=some j->∃(f:j<xs.length),Ig H us xs[j]=true∧(∀m(c:m<xs.length),m<j->Ig H us xs[m]=false)∧us.all sU=true∧(∀m(c:m<xs.length),m≤j->∃t ws,xs[m]=.ref t∧H.tup t=some ws∧ws.all sU=true):=by
 induction i with
 |nil=>intro j e;cases e
 |@cons x a xs vs k _ l=>
  intro j e;refine qY (A7.mp e) λt n o=>qY (A7.mp o) λws d b=>?_;obtain rfl:=jA n;obtain rfl:=k.zT;split at b
  ·rename_i p
   refine qK (Bool.and_eq_true_iff.mp p) λg r=>?_;split at b
   ·rename_i q
    cases b;exact⟨Nat.zero_lt_succ _,(Qy d).trans (dct q),λm c h=>absurd h (Nat.not_lt_zero _),r,λm c h=>by
     have:m=0:=by exact Nat.le_antisymm h (Nat.zero_le m)
     subst this;exact(xO t ws rfl d g)⟩
   ·rename_i q
    refine qY (B8.mp b) λA s u=>?_;subst u;refine cN (l s) λf v w y z=>?_;refine rE (by simp;exact f) (by simpa using v) (λm c h=>?_) y (λm c h=>?_)
    rotate_left
    ·cases m with
     |zero=>exact xO t ws rfl d g
     |succ m=>simpa using z m (by simpa using c) (by exact Nat.le_of_lt_succ h)
    ·cases m with
     |zero=>exact(Qy d).trans (dcf q)
     |succ m=>simpa using w m (by simpa using c) (by exact Nat.le_of_lt_succ h)
  ·cases b
theorem Ih{v x:Value}{t:Nat}{a b:Addr}{vs us:List AV}{j:Nat}{Q:AV->St->Prop}(D:Is v (.ref a))(I:Is x (.ref b))(h:H.lst t a=some vs)(X:vs.length<1000000)(F:H.tup b=some us)(G:gF H us vs=some j)(q:Q .none (H.qQ t a (vs.eraseIdx j))):
  R9 Z n lc (call (.builtin "list.remove") [v,x] []) H (VQ Q) qM:=by
 obtain rfl:=D.zT;obtain rfl:=I.zT;intro A E Y κ s J hF d hl k kx;refine zX (kH d h) λu K f L=>zH K λc w=>?_;have e:=f.length;refine cN (Bc f G) λM N O y P=>qY (pG d F) λys R g=>?_;refine zW6 a u.toArray c (.ref b) (Ig H us) j (by simpa using M) ?_ (by simpa using N) (λm i l=>by simpa using O m (by simpa using i) l) (by rw[O9];simp;lia) w ?_
 ·intro m i o;have p:m<u.length:=by simpa using i
  refine wV (P m p o) λt z S B C=>qY (pG d B) λzs T r=>?_;have:=eqAt_reads _ _ A.in1 s _ _ _ _ (nZ T r (lA C)) (nZ R g (lA y)) (by simp only[qG8];exact hZ r) (by simp only[qG8];exact hZ g) (by have:=J.u;simp only[qK8,qR7];have:=depthAll z;lia);have U:qL5 (.tuple (z.map fd)) (.tuple (us.map fd))=Ig H us (.ref t):=by
   simp only[qL5];refine qX (mO r g C y) ?_;exact(Qy B).symm
  replace this:=U▸this;simpa[S] using this
 ·refine qK (Ja (j:=j) d w f L) λV W=>?_;exact k _ _ _ _ V W (qZ _ .none q)
theorem zY3:∀{vs:List AV}{is:List Int},zK Is xs vs->vs.mapM it=some is->zQ7 xs is:=by
 intro vs is h;induction h generalizing is with
 |nil=>intro e;simp at e;subst e;exact .nil
 |@cons x a xs vs i _ d=>
  intro e;rw[qL8] at e;refine qY (A7.mp e) λj f g=>qY (A7.mp g) λk b c=>?_;cases c;obtain rfl:=lI f;obtain⟨t,rfl⟩:=i.xN;exact .cons _ _ (d b)
theorem Hm(h:zQ7 xs is):zK Is xs (is.map AV.int):=by
 induction h with
 |nil=>exact .nil
 |cons n t _ a=>exact .cons (.int _ _) a
theorem zC5(y:Z.hd=none){v:Value}{t:Nat}{a:Addr}{vs:List AV}{is:List Int}{x:Int}{Q:AV->St->Prop}(i:Is v (.ref a))(h:H.lst t a=some vs)(z:vs.mapM it=some is)(m:is.min?=some x)(q:Q (.int x) H):
  R9 Z n lc (call (.builtin "min") [v] []) H (VQ Q) qM:=by
 obtain rfl:=i.zT;intro A E P B s C R o S k T;refine qY (kZ o h) λU h1 D=>?_;have p:=zY3 D z;refine zH p.allInts.items λb e=>?_;have c:is=b.toList.map (·.1):=by rw[<-p.numsOf,<-nums_intItems,<-e]
 have d:0<is.length:=by cases is with
  |nil=>exact uZ m
  |cons a r=>simp
 have f:0<b.size:=by rw[c,S6,qX1] at d;exact d
 replace h1:=e▸h1;refine min_intList (C.hd.trans y) h1 f λv V tk F G=>?_;refine zH (intItems_at F) λt I=>?_;subst I;refine qK (argBest_lt (zM1 b) (b.size-1)) λJ K=>qK (o.more (tk:=tk) G) λL M=>?_;have g:=List.min?_eq_some_iff.mp m;have N:zM1 b (argBest (λi j=>decide (zM1 b i<zM1 b j)) (b.size-1))=x:=by
  have O:zM1 b (argBest (λi j=>decide (zM1 b i<zM1 b j)) (b.size-1))∈is:=by
   rw[c,numAt_eq];exact getD_mem (by rw[S6,qX1];exact Nat.lt_of_le_of_lt J (Nat.sub_lt f Nat.one_pos))
  have m2:=g.1;replace m2:=c▸m2;refine qY (mem_getD m2) λj u l=>?_;rw[S6,qX1] at u;have w:=K j (Nat.le_sub_one_of_lt u);rw[numAt_eq b j,l] at w;exact Int.le_antisymm w (g.2 _ O)
 refine qX (N) ?_;exact k _ _ B H L M (qZ _ (.int _ _) q)
theorem Bd(h:zK Te kvs l):kvs.map (·.1)=l.map (·.1):=by
 induction h with
 |nil=>rfl
 |cons f _ a=>simp[f.key,a]
theorem Im:∀{l r:List α},l.Perm r->r.length≤1->l=r
 |l,[],p,_=>p.eq_nil
 |l,[x],p,_=>List.perm_singleton.mp p
 |l,_::_::_,p,h=>by simp at h
theorem Be{kvs:List (Int×Value)}{acc:Array Value}(h:ItemsOf (λi v=>∃k x,kvs[i]?=some (k,x)∧(IK w).is k v=true) acc kvs.length)(d:kvs.length≤1):zQ7 acc.toList (kvs.map (·.1)):=by
 refine qK h λe f=>?_;clear h;have b:acc.toList.length=kvs.length:=qX qX1 e;cases kvs with
 |nil=>rw[qQ7 b];exact .nil
 |cons p r=>
  obtain rfl:=qQ7 (Nat.le_zero.mp (Nat.le_of_succ_le_succ d));refine zH (List.length_eq_one_iff.mp b) λu c=>?_;have:acc[0]?=some u:=qX (C6 (Array.getElem?_toList)) (qX c rfl);refine yX (f 0 u this) λl m g a=>?_;obtain rfl:=B5 g;refine zH (Value.isInt_shape a) λt j=>?_;subst j;refine qX c ?_;exact .cons _ _ .nil
theorem zX9(N:Z.hd=none)(O:Z.Ok){v:Value}{tg:Nat}{a:Addr}{l:List (Int×AV)}{Q:AV->St->Prop}(i:Is v (.ref a))(h:H.yT a=some l)(P:l.length≤1)(q:∀b,qD H b->Q (.ref b) (H.qQ tg b (l.map λp=>AV.int p.1))):
  R9 Z n lc (call (.builtin "sorted") [v] []) H (VQ Q) qM:=by
 obtain rfl:=i.zT;intro A E Qc S s T hF B hl k kx;refine qK (Jt B h) λU V=>qY U λkvs W I=>zH W.dictAt λep j=>?_;have J:=I.length;refine jL (B.free O (Nat.le_refl s.heap.objs.size)) λX k0 z0 _=>?_;have r:=j.lt_size;refine Calls.call_function_entry kind_sorted plain_sorted entry_sorted (args_sorted1 _) ?_;unfold Builtin.«sorted»;refine R8 (m:=checkCount "sorted" 1 1 _) (S5 ?_);have Y:(s.heap.push {cls:=.type "list",data:=.seq ([]:List Value).toArray}).get? s.heap.objs.size=some {cls:=.type "list",data:=.seq #[] 0}:=B3 _ rfl;have t:∀b o,s.heap.get? b=some o->(s.heap.push {cls:=.type "list",data:=.seq ([]:List Value).toArray}).get? b=some o:=λb o e=>S7 _ e;have C:∀(R:qL4->S8->Prop),(∀d tk c K,(∀b o,b≠s.heap.objs.size->(s.heap.push {cls:=.type "list",data:=.seq ([]:List Value).toArray}).get? b=some o->d.get? b=some o)->
   d.get? s.heap.objs.size=some {cls:=.type "list",dict:=none,data:=.seq c K,slots:=#[]}->ItemsOf (λi v=>∃k x,kvs[i]?=some (k,x)∧(IK Z.w).is k v=true) c kvs.length->R (.ok (.ret (.ref s.heap.objs.size))) {s with heap:=d,toks:=tk})->
   qW6 (model O7 Z.w) A.in1 (.builtin "proto.collect" ⟨[.ref a],[]⟩) R s:=λR D=>by
  refine qP2 entry_proto_collect' ?_;refine R8 (qG7 (S5 ⟨qH9 _ (by decide+kernel),qP2 entry_list_iadd' ?_⟩) (by decide));refine qX (qG9 PySem.F.plain_list_iadd _) ?_;exact kdl_extend (A:=A.in1) (s:={s with heap:=s.heap.push {cls:=.type "list",data:=.seq ([]:List Value).toArray}}) (kdl_dict (knd:=IK Z.w) (kvs:=kvs) (ep:=ep) V) (T.hd.trans N) (j.keep t) s.heap.objs.size (Nat.ne_of_gt r) (Nat.ne_of_gt r) (.ref s.heap.objs.size) 0 Y D (by rw[O9];lia)
 refine R8 ?_;unfold collect;refine R8 (wpAny_runValue (C _ λd tk c K hk F f=>?_));refine R8 (qE5 F (S5 ?_));have u:∀b o,s.heap.get? b=some o->d.get? b=some o:=λb o e=>hk b o (λz=>uZ (X.symm.trans (z▸e))) (t b o e);have hI:=Be f (by lia);refine R8 (qG7 ?_ ?_)
 rotate_left
 ·have:=f.1;rw[O9];simp;lia
 have n1:d.objs.size=d.objs.size:=rfl;have g:(d.push {cls:=.type "list",data:=.seq c.toList.toArray}).get? d.objs.size=some (seqObj "list" c.toList.toArray 0):=B3 _ rfl;refine R8 (O4 (qQ9 slot_list_sort (qZ _ g rfl) entry_list_sort (list_sort_tree g hI (by have:=f.1;simp;lia) λout aa a1 a2 a3=>qZ _ rfl ?_) (args_list_sort _)));refine S5 (qZ _ rfl ?_);have L:=Im a2 (by simp;lia);rw[Bd I] at L;subst L;refine qK (B.more (tk:=tk) u) λG f1=>jL (G.free O (Nat.le_refl _)) λn2 M z2 ab=>?_;have w:∀b o,d.get? b=some o->(sortedHeap (d.push {cls:=.type "list",data:=.seq c.toList.toArray}) d.objs.size c.toList out).get? b=some o:=λb o e=>by
  have y:=qC9 e;exact qX (sortedHeap_old (Nat.ne_of_lt y) (by rw[size_push'];exact Nat.lt_succ_of_lt y)) (qX (S7 _ e) rfl)
 refine zH (sortedHeap_at (out:=out) g) λee he=>?_;have io:zK Is out.toList (l.map λp=>AV.int p.1):=by
  have:=Hm a1;replace this:=qZ7▸this;exact this
 have hc:yQ Z (wM S d.objs.size (.lst tg (l.map λp=>AV.int p.1))) (sortedHeap (d.push {cls:=.type "list",data:=.seq c.toList.toArray}) d.objs.size c.toList out) d.objs.size (.lst tg (l.map λp=>AV.int p.1)):=zU out.toList (yU ee (by simpa using he)) io (by simp;lia);refine qK (G.new (tk:=tk) O (Nat.le_refl _) w hc ((G.view.fresh M).cE (zG ..))) λr2 f2=>?_;exact k _ _ _ _ r2 (f1.trans f2) (qZ _ (.ref _) (q _ (xL B.view M)))
theorem Hn{β:Type}:∀{ns:List Str}{vs:List β}{n:Str},vs.length=ns.length->n∈ns->((ns.zip vs).lookup n).isSome=true:=by
 intro ns;induction ns with
 |nil=>
  intro _ n _ h;cases h
 |cons a ns b=>
  intro vs n e h;cases vs with
  |nil=>simp at e
  |cons v vs=>
   refine qX (qW4) (qX (qQ1) ?_);by_cases q:n=a
   ·subst q;simp
   ·have:(n==a)=false:=by simpa using q
    refine qX (this) ?_;exact b (by simpa using e) (by simpa[q] using h)
theorem Qj{α β:Type}{f g:α->Option β}:∀{l:List α},(∀x∈l,f x=g x)->l.filterMap f=l.filterMap g
 |[],_=>rfl
 |a::l,h=>by
  exact qX A8 (qX A8 (qX (h a T3) (qX (Qj λx b=>h x (S9 _ b)) rfl)))
theorem rW{β:Type}:∀{ns:List Str}{vs:List β},ns.Nodup->vs.length=ns.length->(ns.filterMap λn=>((ns.zip vs).lookup n).map (n,·))=ns.zip vs:=by
 intro ns;induction ns with
 |nil=>
  intro vs _ e;cases vs<;>simp at e⊢
 |cons a ns c=>
  intro vs b e;cases vs with
  |nil=>simp at e
  |cons v vs=>
   rw[O5] at b;refine qX (qW4) (qX (A8) ?_);simp only[qQ1,beq_self_eq_true,qN5];congr 1
   refine qX (C6 (c (vs:=vs) b.2 (by simpa using e))) ?_;refine Qj λn d=>?_;have:(n==a)=false:=by simp only[beq_eq_false_iff_ne,ne_eq];rintro rfl;exact b.1 d
   exact qX (this) (qX (c b.2 (by simpa using e)) rfl)
theorem Qv{fd:qZ6}{vs:List Value}(d:fd.params.posonlyargs=[])(g:fd.params.kwonlyargs=[])(e:fd.params.vararg=none)(c:fd.params.kwarg=none)(b:fd.defaults=.none)(j:(fd.params.args.map (·.arg)).Nodup)(a:vs.length=(fd.params.args.map (·.arg)).length):
  zM2 fd ⟨vs,[]⟩=pure ((fd.params.args.map (·.arg)).zip vs):=by
 have k:((qU7 (λx=>x.arg) fd.params.args).take ((qU7 (λx=>x.arg) fd.params.args).length-(List.drop (0-(qU7 (λx=>x.arg) fd.params.args).length) ([]:List Value)).length)).filter (λn=>(((qU7 (λx=>x.arg) fd.params.args).zip vs).lookup n).isNone)=[]:=by
  rw[List.drop_nil,zH9,Nat.sub_zero,qP9,qD6];intro n m h;have:=Hn a m;rw[E4.mp h] at this;exact Bool.noConfusion this
 obtain⟨nm,q,⟨r,i,s,t,kd,u,v⟩,w,y,z,A,B,o,p,C,D,E,F,bt⟩:=fd;dsimp only at d g e c b;subst d g e c b;refine(D9 ?_).trans ((D9 ?_).trans ?_)
 ·exactλh=>absurd (of_decide_eq_true (Bool.and_eq_true_iff.mp h).1) (Nat.not_lt_of_le (Nat.le_of_eq a))
 ·exactλh=>Bool.noConfusion ((cgA (λl:List Str=>!l.isEmpty) k).symm.trans h)
 ·dsimp only;refine qX (show(Option.getD none #[]:Array Value).toList=[] from rfl) (qX (List.drop_nil) (qX (qI1) ?_));refine cgA (pure (f:=Sem)) ?_;show List.filterMap (λn=>(((qU7 (λx=>x.arg) i).zip vs).lookup n).map (n,·)) (qU7 (λx=>x.arg) i++[])=_;rw[E7];exact rW j a
noncomputable def qV3:List (Bool×Nat)->List AV->M->M
 |(false,k)::r,v::a,m=>qV3 r a (up m k v)
 |(true,_)::r,_::a,m=>qV3 r a m
 |_,_,m=>m
noncomputable def fK:List (Bool×Nat)->List AV->M->M
 |(true,k)::r,v::a,m=>fK r a (up m k v)
 |(false,_)::r,_::a,m=>fK r a m
 |_,_,m=>m
def yP(b:M):List Nat->Fm->St->(Fm->St->Prop)->Prop
 |[],F,H,k=>k F H
 |c::r,F,H,k=>∀a,qD H a->yP b r (λx=>if x=c then some a else F x) (H.qU c a (b c)) k
def lP(Q:AV->St->Prop):Fl->M->St->Prop:=λb _ H=>match b with|.ret a=>Q a H|.next=>Q .none H|_=>False
def wFn(Z:Ctx)(n:Nat)(ps:List (Bool×Nat))(c:List Nat)(b:Ss)(a:List AV)(Q:AV->St->Prop)(H:St):Prop:=
 yP (fK ps a λ_=>none) c (λ_=>none) H λF d=>O6 Z n F qM b (qV3 ps a λ_=>none) (lP Q) d
noncomputable def zB0(fd:qZ6)(ps:List (Bool×Nat))(a:List Nat):Bool:=
 fd.params.posonlyargs.isEmpty&&fd.params.kwonlyargs.isEmpty&&fd.params.vararg.isNone&&fd.params.kwarg.isNone&&(fd.defaults==.none)&&((fd.params.args.map (·.arg))==ps.map λp=>nm p.2)&&
 (ps.all λp=>Nat.blt p.2 NN&&(fd.scope.names.lookup (nm p.2)==some (qG5 p.1))&&(!p.1||a.contains p.2))&&(ps.map (·.2)).Nodup&&(a.all λk=>Nat.blt k NN)&&a.Nodup&&
 ((fd.scope.names.filter λx=>x.2==.cell).map (·.1)==a.map nm)&&(fd.scope.names.all λx=>x.2 !=.free)&&(fd.globals==qQ3)&&(fd.builtins==qL2)&&(fd.scope.kind==.function)&&!fd.scope.isCoroutine&&!fd.scope.isGenerator
structure Ba(fd:qZ6)(ps:List (Bool×Nat))(cks:List Nat):Prop where
 p1:fd.params.posonlyargs=[]
 p2:fd.params.kwonlyargs=[]
 p3:fd.params.vararg=none
 p4:fd.params.kwarg=none
 p5:fd.defaults=.none
 p6:fd.params.args.map (·.arg)=ps.map λp=>nm p.2
 Ir:∀p∈ps,p.2<NN∧fd.scope.names.lookup (nm p.2)=some (qG5 p.1)∧(p.1=true->p.2∈cks)
 nd:(ps.map (·.2)).Nodup
 ck:∀k∈cks,k<NN
 cnd:cks.Nodup
 cs:(fd.scope.names.filter λx=>x.2==.cell).map (·.1)=cks.map nm
 free:∀x∈fd.scope.names,x.2≠.free
 gl:fd.globals=qQ3
 bt:fd.builtins=qL2
 kind:fd.scope.kind=.function
 co:fd.scope.isCoroutine=false
 gen:fd.scope.isGenerator=false
theorem zV5{fd:qZ6}{ps:List (Bool×Nat)}{a:List Nat}(h:zB0 fd ps a=true):Ba fd ps a:=by
 simp only[zB0,Bool.and_eq_true,E6,E4,beq_iff_eq,D5,Bool.or_eq_true,Bool.not_eq_true',bne_iff_ne,decide_eq_true_eq,List.contains_eq_mem] at h;refine qK h λw b=>qK w λx c=>qK x λy d=>qK y λz f=>qK z λA g=>qK A λB i=>qK B λC j=>qK C λD l=>qK D λE F=>qK E λm G=>qK m λn o=>qK n λr H=>qK r λs I=>qK s λt J=>qK t λu K=>qK u λL M=>?_;refine⟨L,M,K,J,I,H,λp v=>⟨Nat.le_of_ble_eq_true (o p v).1.1,(o p v).1.2,λe=>?_⟩,G,λk N=>Nat.le_of_ble_eq_true (F k N),l,j,i,g,f,d,c,b⟩;refine qQ0 ((o p v).2) (λq=>?_) λq=>?_
 ·rw[e] at q;first|exact uZ q|exact Bool.noConfusion q|exact nomatch q|(obtain rfl:=B5 q)|exact(q).elim
 ·exact q
theorem hU:∀{l:List Nat},(∀k∈l,k<NN)->l.Nodup->(l.map nm).Nodup
 |[],_,_=>qX5
 |a::l,h,c=>by
  rw[O5] at c;rw[B6,O5];refine⟨λd=>?_,hU (λk b=>h k (S9 _ b)) c.2⟩;refine qY (T8.mp d) λk b e=>?_;have:=yI (h k (S9 _ b)) (h a T3) e;subst this;exact c.1 b
theorem wZ4:∀{ps:List (Bool×Nat)}{vs:List Value}{as:List AV}{mm:Str->Option Value}{m:M},(∀p∈ps,p.2<NN∧kd (nm p.2)=some (qG5 p.1))->zK Is vs as->(∀k,k<NN->Fk (mm (nm k)) (m k))->
  ∀k,k<NN->Fk (bindL kd ((ps.map λp=>nm p.2).zip vs) mm (nm k)) (qV3 ps as m k):=by
 intro ps;induction ps with
 |nil=>intro vs as mm m _ i h k a;cases i<;>exact h k a
 |cons p ps f=>
  intro vs as mm m g i h k a;obtain⟨b,j⟩:=p;cases i with
  |nil=>cases b<;>exact h k a
  |cons i r=>
   refine qK (g (b,j) T3) λn c=>?_;have d:=λp o=>g p (S9 _ o);refine qX B6 (qX qW4 ?_);unfold bindL;cases b with
   |false=>
    refine qX (A3 (qX c rfl)) ?_;refine f d r (λx l=>?_) k a;unfold up;by_cases e:x=j
    ·exact qX (A3 e) (qX (A3 (cgA nm e)) (.some i))
    ·exact qX (D9 e) (qX (D9 (λz=>e (yI l n z))) (h x l))
   |true=>
    refine qX (D9 (by rw[c];simp[qG5])) ?_;exact f d r h k a
theorem wX4:∀{ps:List (Bool×Nat)}{vs:List Value}{as:List AV}{mm:Str->Option Value}{m:M},(∀p∈ps,p.2<NN∧kd (nm p.2)=some (qG5 p.1))->zK Is vs as->(∀k,k<NN->Fk (mm (nm k)) (m k))->
  ∀k,k<NN->Fk (bindC kd ((ps.map λp=>nm p.2).zip vs) mm (nm k)) (fK ps as m k):=by
 intro ps;induction ps with
 |nil=>intro vs as mm m _ _ h k a;cases vs<;>cases as<;>exact h k a
 |cons n ps f=>
  intro vs as mm m g o h k a;obtain⟨b,j⟩:=n;cases o with
  |nil=>cases b<;>exact h k a
  |cons i r=>
   refine qK (g (b,j) T3) λq c=>?_;have d:=λp s=>g p (S9 _ s);refine qX (B6) (qX (qW4) ?_);unfold bindC;cases b with
   |true=>
    refine qX (D9 (by rw[c];simp[qG5])) ?_;refine f d r (λx l=>?_) k a;unfold up;by_cases e:x=j
    ·subst e;exact qX (A3 rfl) (qX (A3 rfl) (.some i))
    ·exact qX (D9 e) (qX (D9 (λz=>e (yI l q z))) (h x l))
   |false=>
    refine qX (A3 (qX c rfl)) ?_;exact f d r h k a
theorem qP8:∀(names:List (Str×NameKind))(i:Nat)(acc:List (Str×Addr)),(qZ8 i names acc).map (·.1)=((names.filter λx=>x.2==.cell).map (·.1)).reverse++acc.map (·.1):=by
 intro names;induction names with
 |nil=>
  intro i acc;simp[qZ8]
 |cons c r a=>
  intro i acc;obtain⟨x,k⟩:=c;unfold qZ8;by_cases h:k=.cell
  ·subst h;rw[A3 (by rfl),a];simp
  ·have b:(k==NameKind.cell)=false:=by simpa using h
   rw[b,D9 Bool.false_ne_true,a];simp[b]
theorem uW.deep(h:uW Z A (n+1)):uW Z (A.deeper eV) n:=by
 refine⟨?_,?_,h.hd⟩
 ·have:=h.depth;show A.depth+1+2*n+2≤900;lia
 ·have:=h.units;show A.units+3+40*n+100≤9000;lia
theorem mA.deep(x:mA Z κ A h)(e:cD Z κ h eV):mA Z κ (A.deeper eV) h:=by
 obtain⟨a,q,r⟩:=x;refine⟨eV::a,by show A.frames.map (eV::·)=_;exact qX q rfl,λd b=>?_⟩;refine qQ0 (E3.mp b) (λc=>?_) λb=>?_
 ·subst c;exact e
 ·exact r d b
theorem Hr{κ₀:Kp}{h₀:Heap}{f:M}{K:Fm->St->Prop}:∀{b:List Nat}{κ:Kp}{H:St}{F:Fm}(d:Nat->Addr),Rep Z κ s H->b.Nodup->(∀k∈b,∀j∈b,d k=d j->k=j)->
  (∀k∈b,κ (d k)=none∧Z.h₀.get? (d k)=none∧3<d k∧dJ κ₀ h₀ (d k)∧∃o n,s.heap.get? (d k)=some o∧o.data=.cell n∧Fk n (f k))->yP f b F H K->
  ∃g H' p,Rep Z g s H'∧K p H'∧(∀k a,p k=some a->(k∈b∧a=d k)∨F k=some a)∧(∀x,(∀k∈b,x≠d k)->g x=κ x):=by
 intro b;induction b with
 |nil=>exactλd l _ _ _ w=>Km _ _ _ l w (λk a e=>.inr e) (λx _=>rfl)
 |cons c r J=>
  intro κ H F d l L m B w;refine qK (O5.mp L) λu v=>En (B c T3) λy N O _ P=>wV P λo n C D Q=>?_;have A:Rep Z (wM κ (d c) (.qG c (f c))) s (H.qU c (d c) (f c)):=by
   refine l.adopt y N O ?_ (xO o n C D Q) ((l.view.fresh y).Et (zG ..));intro q R;refine Tb R λY oc vs t S E G f4=>?_;rw[<-Value.ref.inj S,C] at E;rw[<-B5 E,D] at G;exact nomatch G
  obtain⟨g,H',p,T,U,V,W⟩:=J d A v (λk i j X e=>m k (S9 _ i) j (S9 _ X) e) (λk i=>by
   have a:=B k (S9 _ i);exact⟨(qX (zM λe=>u (m k (S9 _ i) c T3 e▸i)) a.1),a.2⟩) (w (d c) (xL l.view y))
  refine Km (g) H' p T U (λk a e=>(V k a e).elim (λh=>.inl ⟨S9 _ h.1,h.2⟩) λq=>?_) (λx I=>(W x λk i=>I k (S9 _ i)).trans (zM (I c T3)));by_cases z:k=c
  ·rw[A3 z] at q;exact .inl ⟨z▸T3,z▸(B5 q).symm⟩
  ·rw[D9 z] at q;exact .inr q
theorem zV1{K:Frag}{c:Value}{a:Option Addr}{fd:qZ6}{b:Array (Option Value)}(d:K.lookup f=some ⟨c,a,.func fd,b⟩):qH1 K (.ref f)=true:=by
 unfold qH1;dsimp only;exact qX (d) rfl
theorem Rj(O:Z.Ok){f:Addr}{oc:Value}{od:Option Addr}{fd:qZ6}{sl:Array (Option Value)}{body:List Stmt}{ps:List (Bool×Nat)}{t:List Nat}{W:Fm->M->(Fl->M->St->Prop)->St->Prop}{as:List AV}{Q:AV->St->Prop}{R:Value->St->Prop}
  (hf:Z.K.lookup f=some ⟨oc,od,.func fd,sl⟩) (hb:fd.body=.stmts body) (bd:fd.closure=[]) (D:Ba fd ps t) (U:qE7 Z.K fd.code fd.qualname=true) (ac:ps.length=as.length) (bc:∀e H',R e H'->∃a C g,e=.ref a∧H'.exc C a=some g)
  (hB:∀(eV:Env)(F:Fm)(m:M)(Q':Fl->M->St->Prop)(H':St),zV eV F fd.scope.names->eV.code=fd.code->eV.qual=fd.qualname++".<locals>."->eV.frame=some eV.locals->W F m Q' H'->qF Z n eV.locals m (qQ8 body eV) H' (FQ Q') R)
  (w:yP (fK ps as λ_=>none) t (λ_=>none) H λF H'=>W F (qV3 ps as λ_=>none) (lP Q) H') {vs:List Value} (iv:zK Is vs as) {A:O3} {RR:qL4->S8->Prop} {κ:Kp} {s:S8} (hA:uW Z A (n+1)) (hF:mA Z κ A s.heap) (hR:Rep Z κ s H)
  (kq:∀v T d H',Rep Z d T H'->((¬∃e H,R e H)->yL κ s.heap d T.heap)->VQ Q v H'->RR (.ok (.ret v)) T) (kx:∀e T d H',Rep Z d T H'->jO κ s.heap d T.heap->R e H'->RR (.error e) T):qW6 (model O7 Z.w) A (.call (.ref f) ⟨vs,[]⟩) RR s:=by
 have X:=O.X.keeps hR.old;have G:(fd.params.args.map (·.arg)).Nodup:=by
  refine qX (D.p6) ?_;have:=hU (l:=ps.map (·.2)) (λk h=>by obtain⟨p,K,rfl⟩:=T8.mp h;exact(D.Ir p K).1) D.nd;replace this:=qZ7▸this;exact this
 have V:zM2 fd ⟨vs,[]⟩=pure ((ps.map λp=>nm p.2).zip vs):=by
  have:=Qv (fd:=fd) (vs:=vs) D.p1 D.p2 D.p3 D.p4 D.p5 G (by rw[D.p6,S6,ac,iv.length]);replace this:=D.p6▸this;exact this
 have be:∀p∈ps,p.2<NN∧fd.scope.names.lookup (nm p.2)=some (qG5 p.1):=λp K=>⟨(D.Ir p K).1,(D.Ir p K).2.1⟩;have ae:∀i,(qZ8 i fd.scope.names []).map (·.1)=(t.map nm).reverse:=λi=>by rw[qP8,D.cs];simp
 refine codeAny_call_cells (fd:=fd) (body:=body) (binds:=(ps.map λp=>nm p.2).zip vs) ?_ (X _ _ hf) rfl (O.nolimit.keeps hR.old) (codeRec_of X U) hb V bd (λx Y=>?_) (λs1 x1=>?_) D.co D.gen D.kind
 ·have:=hA.depth;show A.depth<1000;lia
 ·have hm:=(qR9 (show(x.1,x.2)∈_ from Y)).1;refine qY (T8.mp hm) λp K e=>wH (D.Ir p K) λh1 h2 h3=>?_;refine qX (C6 (e)) ?_;cases aa:p.1 with
  |false=>left;exact qX h2 (qX aa rfl)
  |true=>
   right
   refine⟨qX h2 (qX aa rfl),?_⟩;have:nm p.2∈(qZ8 (s.heap.objs.size+1) fd.scope.names []).map (·.1):=by rw[ae];exact qK6.mpr (T8.mpr (qZ p.2 (h3 aa) rfl))
   refine qY (T8.mp this) λy hy ey=>?_;cases N:(qZ8 (s.heap.objs.size+1) fd.scope.names []).lookup (nm p.2) with
   |some a=>rfl
   |none=>
    rw[qX6] at N;have:=N y hy;simp[ey] at this
 ·obtain⟨⟨⟨h1,af,rfl⟩,ag,z,bb⟩,ab,I,u⟩:=x1;obtain⟨r1,f1⟩:=hR.more (tk:=af) z;generalize c:callEnvC fd s.heap.objs.size f=eV at*;have el:eV.locals=s.heap.objs.size:=qX (C6 (c)) rfl;have ec:eV.cells=qZ8 (s.heap.objs.size+1) fd.scope.names []:=qX (C6 (c)) rfl;have en:eV.scope.names=fd.scope.names:=qX (C6 (c)) rfl;have ek:eV.scope.kind=.function:=qX (C6 (c)) D.kind;refine jL (hR.free O (Nat.le_refl s.heap.objs.size)) λn0 k0 z0 cf=>?_;have bf:∀k,eV.kindOf k=fd.scope.names.lookup k:=λk=>by unfold qX9;rw[en]
  have P:∀p∈ps,p.2<NN∧eV.kindOf (nm p.2)=some (qG5 p.1):=λp K=>by rw[bf];exact be p K
  have bg:∀k∈t,∃a,eV.cells.lookup (nm k)=some a:=λk h=>by
   have:nm k∈(qZ8 (s.heap.objs.size+1) fd.scope.names []).map (·.1):=by rw[ae];exact qK6.mpr (T8.mpr (qZ k h rfl))
   refine qY (T8.mp this) λy hy ey=>?_;refine qX (ec) ?_;cases N:(qZ8 (s.heap.objs.size+1) fd.scope.names []).lookup (nm k) with
   |some a=>exact yU a rfl
   |none=>
    rw[qX6] at N;have:=N y hy;simp[ey] at this
  let cs:Nat->Addr:=λk=>(eV.cells.lookup (nm k)).getD 0
  have r:∀k∈t,eV.cells.lookup (nm k)=some (cs k):=λk h=>by obtain⟨a,e⟩:=bg k h;simp[cs,e]
  have B:∀k∈t,s.heap.objs.size≤cs k:=λk h=>by have:=u _ _ (mem_of_lookup (r k h));rw[el] at this;exact Nat.le_of_lt this
  have S:∀a,s.heap.objs.size≤a->dJ κ s.heap a:=λa ha o e=>by rw[qW8 ha] at e;cases e
  obtain⟨d,H',F',r2,wb,bh,hκ'⟩:=Hr (κ₀:=κ) (h₀:=s.heap) cs r1 D.cnd (λk h j hj e=>by
    have:=name_of_addr I (mem_of_lookup (r k h)) (qX e (mem_of_lookup (r j hj)));exact yI (D.ck k h) (D.ck j hj) this)
   (λk h=>by
    refine jL (hR.free O (B k h)) λ_ a1 a2 a3=>qY (ab _ _ (r k h)) λo e1 e2=>?_;refine(wN7 a1 a2 a3 (S _ (B k h)) (xO o _ e1 e2 (wX4 P iv (λk _=>by exact .none) k (D.ck k h))))) w
  have ca:∀k∈t,eV.locals≠cs k:=λk h e=>by have:=u _ _ (mem_of_lookup (r k h));rw[<-e] at this;exact Nat.lt_irrefl _ this
  have lo:wN d h1 eV.locals (qV3 ps as λ_=>none):=by
   refine⟨?_,_,ag,λk h=>(wZ4 P iv (λk _=>.none) k h).w⟩;exact qX (hκ' _ ca) (qX (el) (k0))
  have f2:yL κ s.heap d h1:=λb o e k=>by
   refine⟨z b o e,?_⟩;rw[hκ' b λj hj q=>?_]
   ·exact k
   ·have h1:=qC9 e;rw[q] at h1;exact absurd h1 (Nat.not_lt.mpr (B j hj))
  have EO:zV eV F' fd.scope.names:=by
   refine⟨ek,en,qX (C6 (c)) D.gl,qX (C6 (c)) D.bt,λk a h cg hF=>?_,λx Y=>?_⟩
   ·refine qQ0 (bh k a hF) (λy2=>?_) λq=>?_
    ·obtain⟨p,rfl⟩:=y2;exact r k p
    ·cases q
   ·have hm:(x,NameKind.cell)∈fd.scope.names:=by
     refine qQ0 Y (λq=>?_) λq=>?_
     ·exact mem_of_lookup q
     ·exact absurd rfl (D.free _ (mem_of_lookup q))
    have:x∈(qZ8 (s.heap.objs.size+1) fd.scope.names []).map (·.1):=by
     rw[qP8];simp only[qD4,E7,qK6,T8,T6];exact qZ (x,.cell) ⟨hm,rfl⟩ rfl
    refine qY (T8.mp this) λy hy ey=>?_;refine qX (ec) ?_;cases N:(qZ8 (s.heap.objs.size+1) fd.scope.names []).lookup x with
    |some a=>exact yU a rfl
    |none=>
     rw[qX6] at N;have:=N y hy;simp[ey] at this
  have FE:cD Z d h1 eV:=⟨ek,eV.locals,_,qX (C6 (c)) rfl,ag,lo.own,qX el z0⟩;have J:eV.frame=some eV.locals:=qX (C6 (c)) rfl;have nL:dJ κ s.heap eV.locals:=qX el (S _ (Nat.le_refl _));refine hB eV F' _ _ _ EO (qX (C6 (c)) rfl) (qX (C6 (c)) rfl) J wb (A.deeper eV) _ _ d {s with heap:=h1,toks:=af} hA.deep ((hF.pT f2).deep FE) r2 lo (.deep hF (qX el z0) J) (λfl s3 E H3 m3 r3 f3 ah q3=>?_) (λe s3 E H3 r3 f3 q3=>?_)
  rotate_left
  ·refine jP (bc e H3 q3) λa C g z1 he=>?_;subst z1;obtain⟨outer,eo,ho⟩:=hF;obtain⟨cb,m3,ah⟩:=f3;have fX:jO κ s.heap E s3.heap:=λb o e k=>qK (f2 b o e k) λe' k'=>cb b o (by rintro rfl;exact nL o e k) e' k';refine Ij O r3 he (outer:=outer) (by show A.frames.map (eV::·)=_;exact qX eo rfl) (λx Y=>?_) (L:=eV.locals) J rfl λh' cc r4 f4=>kx _ _ cc H3 r4 (fX.trans f4) q3;refine qQ0 (E3.mp Y) (λcd=>?_) λY=>?_
   ·subst cd;obtain⟨k3,mm,ce,_⟩:=ah;exact⟨ek,_,mm,J,ce,k3,by rw[el];exact z0⟩
   ·exact(ho x Y).tJ fX
  have f4:(¬∃e H,R e H)->yL κ s.heap E s3.heap:=λhT=>f2.Vx nL f3 hT;cases fl with
  |next=>exact kq _ s3 E H3 r3 f4 (qZ _ .none q3)
  |ret v=>
   refine qY q3 λa ia q=>?_;exact kq _ s3 E H3 r3 f4 (qZ _ ia q)
  |brk=>exact q3.elim
  |cont=>exact q3.elim
theorem Rv(O:Z.Ok){f:Addr}{x:Value}{z:Option Addr}{fd:qZ6}{B:Array (Option Value)}{body:List Stmt}{ps:List (Bool×Nat)}{h:List Nat}{W:Fm->M->(Fl->M->St->Prop)->St->Prop}{as:List AV}{Q:AV->St->Prop}{R:Value->St->Prop}
  (G:Z.K.lookup f=some ⟨x,z,.func fd,B⟩) (p:fd.body=.stmts body) (k:fd.closure=[]) (D:Ba fd ps h) (d:qE7 Z.K fd.code fd.qualname=true) (i:ps.length=as.length) (j:∀e H',R e H'->∃a C g,e=.ref a∧H'.exc C a=some g) (K:(∃e H',R e H')->∀a H',Q a H'->False)
  (o:∀(eV:Env)(F:Fm)(m:M)(l:Fl->M->St->Prop)(H':St),zV eV F fd.scope.names->eV.code=fd.code->eV.qual=fd.qualname++".<locals>."->eV.frame=some eV.locals->W F m l H'->qF Z n eV.locals m (qQ8 body eV) H' (FQ l) R)
  (w:yP (fK ps as λ_=>none) h (λ_=>none) H λF H'=>W F (qV3 ps as λ_=>none) (lP Q) H') {vs:List Value} (I:zK Is vs as) {A:O3} {RR:qL4->S8->Prop} {κ:Kp} {s:S8} (u:uW Z A (n+1)) (J:mA Z κ A s.heap) (E:Rep Z κ s H)
  (y:∀v c b H',Rep Z b c H'->yL κ s.heap b c.heap->VQ Q v H'->RR (.ok (.ret v)) c) (t:∀e c b H',Rep Z b c H'->jO κ s.heap b c.heap->R e H'->RR (.error e) c):qW6 (model O7 Z.w) A (.call (.ref f) ⟨vs,[]⟩) RR s:=
 Rj O G p k D d i j o w I u J E (λv c b H' r f q=>y v c b H' r (f λL=>qY q λa _ q=>K L a H' q) q) t
theorem Lg(O:Z.Ok){f:Addr}{p:Value}{q:Option Addr}{fd:qZ6}{r:Array (Option Value)}{body:List Stmt}{ps:List (Bool×Nat)}{c:List Nat}{W:Fm->M->(Fl->M->St->Prop)->St->Prop}{as:List AV}{Q:AV->St->Prop}{R:Value->St->Prop}
  (j:Z.K.lookup f=some ⟨p,q,.func fd,r⟩) (o:fd.body=.stmts body) (i:fd.closure=[]) (D:Ba fd ps c) (b:qE7 Z.K fd.code fd.qualname=true) (d:ps.length=as.length) (h:∀e H',R e H'->∃a C g,e=.ref a∧H'.exc C a=some g) (t:(∃e H',R e H')->∀a H',Q a H'->False)
  (l:∀(eV:Env)(F:Fm)(m:M)(k:Fl->M->St->Prop)(H':St),zV eV F fd.scope.names->eV.code=fd.code->eV.qual=fd.qualname++".<locals>."->eV.frame=some eV.locals->W F m k H'->qF Z n eV.locals m (qQ8 body eV) H' (FQ k) R)
  (w:yP (fK ps as λ_=>none) c (λ_=>none) H λF H'=>W F (qV3 ps as λ_=>none) (lP Q) H'):qB Z (n+1) f as H Q R:=
 ⟨.inl (zV1 j),λI u A E v J s x y z K B G=>qV1 (Rv (RR:=wants v E) O j o i D b d h t l w u x y z B G)⟩
theorem zY0(O:Z.Ok){f:Addr}{l:Value}{o:Option Addr}{fd:qZ6}{p:Array (Option Value)}{body:List Stmt}{ps:List (Bool×Nat)}{g:List Nat}{b:Ss}{as:List AV}{Q:AV->St->Prop}
  (r:Z.K.lookup f=some ⟨l,o,.func fd,p⟩) (k:fd.body=.stmts body) (i:fd.closure=[]) (D:Ba fd ps g) (d:qE7 Z.K fd.code fd.qualname=true) (h:ps.length=as.length)
  (j:∀(eV:Env)(F:Fm)(m:M)(e:Fl->M->St->Prop)(H':St),zV eV F fd.scope.names->eV.code=fd.code->eV.qual=fd.qualname++".<locals>."->O6 Z n F qM b m e H'->qF Z n eV.locals m (qQ8 body eV) H' (FQ e) qM)
  (w:wFn Z n ps g b as Q H):qB Z (n+1) f as H Q qM:=Lg (W:=λF m e H'=>O6 Z n F qM b m e H') O r k i D d h (λ_ _ q=>q.elim) (λs=>Wr s λ_ _ q=>q.elim) (λeV F m e H' a b c _=>j eV F m e H' a b c) w
theorem It{K:Frag}(h:uR K c=some d):c∈cC:=by
 unfold uR at h;by_cases a:c=222
 ·subst a;simp[cC]
 ·by_cases b:c=210
  ·subst b;simp[cC]
  ·by_cases e:c=195
   ·subst e;simp[cC]
   ·rw[D9 a,D9 b,D9 e] at h;cases h
theorem Ru{K:Frag}(e:Xr K=true){c a:Nat}{d b:FD}(h:uR K c=some d)(h':uR K a=some b)(f:d.pos.line=b.pos.line)(g:d.pos.col=b.pos.col):c=a:=by
 have:=D5.mp (D5.mp e c (It h)) a (It h');rw[h,h'] at this;simpa[f,g] using this
section
variable{K:Frag}
theorem qN2:∀l:List (Nat×Addr),TriplesOk (qF4 K l)
 |[]=>trivial
 |p::l=>by
  show TriplesOk ((match uR K p.1 with|some d=>[qZ2 d.pos.line,qZ2 d.pos.col,.ref p.2]|none=>[])++qF4 K l);cases uR K p.1 with
  |none=>exact qN2 l
  |some d=>exact qN2 l
theorem Hs(g:Xr K=true){c:Nat}{d:FD}(f:uR K c=some d):∀{l:List (Nat×Addr)},(l.any λp=>p.1=c)=false->qI2 d.pos (qF4 K l)=none:=by
 intro l;induction l with
 |nil=>
  exactλ_=>rfl
 |cons p l a=>
  intro h;simp only[qV4,Bool.or_eq_false_iff,decide_eq_false_iff_not] at h;show qI2 d.pos ((match uR K p.1 with|some d=>[qZ2 d.pos.line,qZ2 d.pos.col,.ref p.2]|none=>[])++qF4 K l)=none;cases e:uR K p.1 with
  |none=>exact a h.2
  |some b=>
   show(if((b.pos.line:Int)==d.pos.line&&(b.pos.col:Int)==d.pos.col)=true then _ else _)=none;rw[D9]
   ·exact a h.2
   intro q;simp only[Bool.and_eq_true,beq_iff_eq] at q;exact h.1 (Ru g e f (by lia) (by lia))
theorem Ht(i:Xr K=true){c:Nat}{d:FD}(b:uR K c=some d):∀{l:List (Nat×Addr)},(l.any λp=>p.1=c)=true->∃a,(c,a)∈l∧qI2 d.pos (qF4 K l)=some (.ref a):=by
 intro l;induction l with
 |nil=>
  intro h;simp at h
 |cons p l j=>
  intro h;show∃a,_∧qI2 d.pos ((match uR K p.1 with|some d=>[qZ2 d.pos.line,qZ2 d.pos.col,.ref p.2]|none=>[])++qF4 K l)=_;by_cases q:p.1=c
  ·refine qX (q) (qX (b) ?_);refine qZ p.2 (qX (C6 (q)) T3) ?_;show(if((d.pos.line:Int)==d.pos.line&&(d.pos.col:Int)==d.pos.col)=true then _ else _)=_;exact qX (A3 (by simp)) rfl
  ·have k:(l.any λp=>p.1=c)=true:=by simpa[q] using h
   refine qY (j k) λa m f=>?_;refine qZ a (S9 _ m) ?_;cases e:uR K p.1 with
   |none=>exact f
   |some g=>
    show(if((g.pos.line:Int)==d.pos.line&&(g.pos.col:Int)==d.pos.col)=true then _ else _)=_;rw[D9]
    ·exact f
    ·intro z;simp only[Bool.and_eq_true,beq_iff_eq] at z;exact q (Ru i e b (by lia) (by lia))
theorem Hb(b:uR K c=some d)(l:List (Nat×Addr))(a:Addr):qF4 K (l++[(c,a)])=qF4 K l++[qZ2 d.pos.line,qZ2 d.pos.col,.ref a]:=by
 unfold qF4;refine qX (List.flatMap_append) ?_;simp[b]
end
theorem View.addTab(V:View κ H)(a:κ b=some (.tab l)):View κ (H.vQ b l):=
 {V with tab:=λd c e=>by simp only[St.vQ] at e;split at e;(rename_i q;obtain rfl:=q;cases e;exact a);exact V.tab _ _ e}
noncomputable def wR3(c:Nat)(a:List Nat)(params:Arguments)(body:List Stmt)(scope:Scope)(pos:Pos):Bool:=
 params.defaults.isEmpty&&params.kw_defaults.isEmpty&&((scope.names.filter λx=>x.2==.free).reverse.map (·.1)==a.map nm)
section
variable{Z:Ctx}{ks:List (Str×NameKind)}
theorem zL8{F:Fm}{names:List (Str×NameKind)}{b:List Nat}{e:List (Nat×Addr)}(n:zV eV F ks)(i:∀k∈b,k<NN∧(ks.lookup (nm k)=some .cell∨ks.lookup (nm k)=some .free))(h:(names.filter λx=>x.2==.free).reverse.map (·.1)=b.map nm)(c:Hq F b=some e):
  xW eV names=e.map λp=>(nm p.1,p.2):=by
 have l:xW eV names=((names.filter λx=>x.2==.free).reverse.map (·.1)).map λx=>(x,(eV.cells.lookup x).getD 0):=by
  unfold xW;exact qX qZ7 rfl
 refine qX (l) (qX (h) ?_);clear l h;induction b generalizing e with
 |nil=>unfold Hq at c;simp at c;subst c;rfl
 |cons k r m=>
  unfold Hq at c m;rw[qL8] at c;refine qY (A7.mp c) λp o q=>qY (A7.mp q) λv f g=>?_;cases g;refine qY (B8.mp o) λa s t=>?_;subst t;have d:=i k T3;rw[B6,B6,B6,m (λj u=>i j (S9 _ u)) f,n.cells k a d.1 d.2 s];rfl
theorem zI2(O:Z.Ok)(T:zV eV F ks){c:Nat}{K:List Nat}{t cA:Addr}{d:FD}{pos:Pos}{Q:Fl->M->St->Prop}{l:List (Nat×Addr)}{D:List (Nat×Addr)}
  (hd:uR Z.K c=some d) (hc:c<NN) (hl:ks.lookup (nm c)=some .local) (U:pos=d.pos) (W:d.params.defaults=[]) (h2:d.params.kw_defaults=[]) (h3:annTrees d.params none eV=[]) (h4:(d.scope.names.filter λx=>x.2==.free).reverse.map (·.1)=K.map nm)
  (hk:∀k∈K,k<NN∧(ks.lookup (nm k)=some .cell∨ks.lookup (nm k)=some .free)) (hq:qualnameIn eV (nm c) (nm c)=pL c) (v:eV.code=.ref cA) (C:zQ8 Z.h₀ cA t)
  (ht:H.tab t=some l) (bd:Hq F K=some D) (q:∀I f,qD H f->tK c l I->Q .next (up m c (.ref f)) ((H.vQ t I).lC c f D)):
  qF Z n eV.locals m (exec (.FunctionDef (nm c) d.params d.body [] none [] d.scope none (nm c) pos) eV) H (FQ Q) qM:=by
 subst U;intro A E Qc X s hA hF B be h0 kq kx;refine nestDef_K W h2 h3 ?_;have Y:=B.view.tab t l ht;refine wH (B.cells t _ Y) λz1 zP _=>qK z1 λeP hP=>?_;clear z1;have L:∀x∈d.scope.names,x.2=.free->∃a,eV.cells.lookup x.1=some a:=λx N kx=>by
  have:x.1∈(d.scope.names.filter λx=>x.2==.free).reverse.map (·.1):=T8.mpr (qZ x (qK6.mpr (T6.mpr ⟨N,qX kx rfl⟩)) rfl);replace this:=h4▸this;refine qY (T8.mp this) λk bf e=>?_;refine qX (C6 (e)) ?_;exact T.has _ (hk k bf).2
 have w:=lL L;have aa:=zL8 T hk h4 bd;have G:=O.G.keeps B.old;have C':=C.keeps B.old;have bg:qQ3≠t:=by
  intro e;refine jP O.G λo es ep e1 _=>?_;rw[e,zP] at e1;cases e1
 have ab:s.heap.BuiltinsAt Z.mg t:=by
  refine Tr O.bmain λbm ob b1 b2 b3 b4 b5 b6=>?_;refine wN5 bm ob b1 b2 ?_ ?_ (B.old _ _ b3) b4 b5 b6
  ·intro e;refine gL O.G λo es ep e1 P _=>?_;rw[<-e,b3] at e1;cases e1;rw[b6] at P;cases P
  ·intro e;rw[e,zP] at b3;cases b3
 refine qX (hq) ?_;have fin:∀(J:Addr)(I:List (Nat×Addr))(i j:Value)(h:Heap)(tk:Tok)(y:Kp)(H1:St),tK c l I->H1=H.vQ t I->Rep Z y {s with heap:=h,toks:=tk} H1->yL X s.heap y h->y J=none->h.CodeRec (.ref J) (pL c)->
   D8 (model O7 Z.w) A (wM1 eV (nm c) (.ref h.objs.size)) (λ_ bh=>Qc .next bh) E {s with heap:=h.push (fnMade (nm c) (pL c) d.params d.body d.scope (D.map λp=>(nm p.1,p.2)) j ((Z.mg "__name__").getD .none) J i),toks:=tk}:=by
  intro J I i j h tk y H1 ca ac z f1 cb g;refine jL (z.free O (Nat.le_refl h.objs.size)) λn0 k0 z0 da=>?_;have cc:J≠h.objs.size:=by
   refine Ws g λc2 oc vs tt e P _=>?_;clear g;cases e;intro q;rw[<-q] at n0;rw[n0] at P;cases P
  have ae:∀b o,h.get? b=some o->(h.push (fnMade (nm c) (pL c) d.params d.body d.scope (D.map λp=>(nm p.1,p.2)) j ((Z.mg "__name__").getD .none) J i)).get? b=some o:=λb o e=>S7 _ e;have r:yQ Z (wM y h.objs.size (.fn c D)) (h.push (fnMade (nm c) (pL c) d.params d.body d.scope (D.map λp=>(nm p.1,p.2)) j ((Z.mg "__name__").getD .none) J i)) h.objs.size (.fn c D):=
   ⟨_,d,i,J,B3 _ rfl,hd,rfl,g.keeps ae,qX (zM cc) cb⟩
  refine qK (z.new (tk:=tk) O (Nat.le_refl h.objs.size) ae r ((z.view.fresh k0).addFn (zG ..))) λr2 f2=>?_;have cd:qD H h.objs.size:=by
   have:=xL z.view k0;replace this:=ac▸this;exact⟨this.obj,this.lst,this.tup,this.sd,this.td,this.yT,this.qG,this.fn⟩
  have f3:=f1.trans f2;subst ac;exact Jo T hc hl (.ref _) (m:=m) (Q:=λ_ m' H'=>m'=up m c (.ref h.objs.size)∧H'=(H.vQ t I).lC c h.objs.size D) (R:=qM) (n:=n) (Z:=Z) ⟨rfl,rfl⟩ A E _ _ _ hA (hF.pT f3) r2 (wN.pT be f3) h0
   (λ_ s4 ce H4 m4 r4 f4 cf q4=>by
    refine qK q4 λz1 z2=>?_;clear q4;subst z1;subst z2;exact kq _ s4 ce _ _ r4 (f3.Ae.trans f4) cf (q I _ cd ca)) (λ_ _ _ _ _ _ q=>q.elim)
 cases u:l.any λp=>p.1=c with
 |false=>
  refine makeFunction_K w T.globals G v C' eP (by simpa using qN2 l) (by simpa using Hs O.pos hd u) bg ab λS i j h tk N af db g cg=>?_;have ag:=qW8 af;refine jL (B.free O af) λ_ ah dc _=>?_;have bb:S≠t:=by intro e;rw[e,eP] at ag;cases ag
  have r:yQ Z (wM X t (.tab (l++[(c,S)]))) h t (.tab (l++[(c,S)])):=by
   refine⟨by rw[cg,Hb hd];simp,λp hp=>?_⟩;refine qQ0 (A4.mp hp) (λhp=>?_) λhp=>?_
   ·refine qK (hP p hp) λW h2=>Ws h2 λc2 oc vs tt e P e3=>?_;clear h2;cases e;have bc:p.2≠t:=by intro e;rw[e,Y] at W;cases W
    exact⟨qX (zM bc) W,_,oc,vs,tt,rfl,N _ _ bc P,e3⟩
   ·obtain rfl:=B7.mp hp;exact⟨qX (zM bb) ah,g⟩
  have V:View (wM X t (.tab (l++[(c,S)]))) (H.vQ t (l++[(c,S)])):=B.view.putTab Y;refine qK (B.upd (tk:=tk) Y rfl N r V) λz f1=>?_;refine qX (aa) ?_;exact fin S _ i j h tk _ _ (by unfold tK;exact qX u (qX (D9 Bool.false_ne_true) (yU S rfl))) rfl z f1 (qX (zM bb) ah) g
 |true=>
  refine qY (Ht O.pos hd u) λa hm ha=>?_;refine makeFunction_hit w T.globals G v C' eP (by simpa using qN2 l) (by simpa using ha) ab λi j h tk N dd=>?_;refine qK (B.more (tk:=tk) N) λz f1=>qK (hP _ hm) λka g=>?_;have V:=B.view.addTab Y;have ch:Rep Z X {s with heap:=h,toks:=tk} (H.vQ t l):=⟨z.old,z.cells,V,z.gens,z.os⟩;refine qX (aa) ?_;exact fin a l i j h tk X _ (by unfold tK;rw[u,A3 rfl]) rfl ch f1 ka (g.keeps N)
end
structure Ib(d:FD)(ps:List Nat)(cks:List Nat):Prop where
 p1:d.params.posonlyargs=[]
 p2:d.params.kwonlyargs=[]
 p3:d.params.vararg=none
 p4:d.params.kwarg=none
 p6:d.params.args.map (·.arg)=ps.map nm
 Ir:∀p∈ps,p<NN∧d.scope.names.lookup (nm p)=some .local
 nd:ps.Nodup
 ck:∀k∈cks,k<NN
 cell:∀x∈d.scope.names,x.2≠.cell
 free:∀x∈d.scope.names,x.2=.free->∃k∈cks,x.1=nm k
 kind:d.scope.kind=.function
 co:d.scope.isCoroutine=false
 gen:d.scope.isGenerator=false
noncomputable def Vy(d:FD)(ps:List Nat)(a:List Nat):Bool:=
 d.params.posonlyargs.isEmpty&&d.params.kwonlyargs.isEmpty&&d.params.vararg.isNone&&d.params.kwarg.isNone&&(d.params.args.map (·.arg)==ps.map nm)&&(ps.all λp=>Nat.blt p NN&&(d.scope.names.lookup (nm p)==some .local))&&ps.Nodup&&
 (a.all λk=>Nat.blt k NN)&&(d.scope.names.all λx=>(x.2 !=.cell)&&(x.2 !=.free||a.any λk=>x.1==nm k))&&(d.scope.kind==.function)&&!d.scope.isCoroutine&&!d.scope.isGenerator
theorem Yl(h:Vy d ps cks=true):Ib d ps cks:=by
 simp only[Vy,Bool.and_eq_true,E6,E4,beq_iff_eq,D5,Bool.or_eq_true,Bool.not_eq_true',bne_iff_ne,decide_eq_true_eq,qK3] at h;refine qK h λn b=>qK n λo c=>qK o λr f=>qK r λs a=>qK s λt u=>qK t λv w=>qK v λy l=>qK y λz A=>qK z λB C=>qK B λg D=>qK g λE F=>?_;refine⟨E,F,D,C,A,λp m=>⟨Nat.le_of_ble_eq_true (l p m).1,(l p m).2⟩,w,λk i=>Nat.le_of_ble_eq_true (u k i),λx j=>(a x j).1,λx j e=>?_,f,c,b⟩;rcases(a x j).2 with q|q
 ·exact absurd e q
 ·refine qY q λk i e=>?_;exact qZ k i e
theorem Ic(n:zK Is vs as):∀{ps:List Nat}{m:M}{mm:Str->Option Value},(∀p∈ps,p<NN)->ps.length=as.length->(∀k,k<NN->Fk (mm (nm k)) (m k))->
  ∀k,k<NN->Fk (match((ps.map nm).zip vs).reverse.lookup (nm k) with|some v=>some v|none=>mm (nm k)) (ups m ps as k):=by
 induction n with
 |nil=>
  intro ps m mm b e h k c;cases ps with
  |nil=>exact h k c
  |cons p r=>simp at e
 |@cons v a vs as i r d=>
  intro ps m mm b e h k c;cases ps with
  |nil=>simp at e
  |cons p ps=>
   have f:=b p T3;have d:=d (ps:=ps) (m:=up m p a) (mm:=λx=>if x=nm p then some v else mm x) (λq g=>b q (S9 _ g)) (by simpa using e) (λj l=>by
    unfold up;by_cases z:j=p
    ·subst z;exact qX (A3 rfl) (qX (A3 rfl) (.some i))
    ·exact qX (D9 z) (qX (D9 (λy=>z (yI l f y))) (h j l))) k c
   have o:(match(((p::ps).map nm).zip (v::vs)).reverse.lookup (nm k) with|some v=>some v|none=>mm (nm k))=(match((ps.map nm).zip vs).reverse.lookup (nm k) with|some v=>some v|none=>if nm k=nm p then some v else mm (nm k)):=by
    refine qX (B6) (qX (qW4) (qX (List.reverse_cons) (qX (List.lookup_append) ?_)));cases g:((ps.map nm).zip vs).reverse.lookup (nm k) with
    |some u=>rfl
    |none=>
     simp only[Option.none_or,qQ1,List.lookup_nil];by_cases z:nm k=nm p
     ·simp[z]
     ·have:(nm k==nm p)=false:=by simpa using z
      simp[this,z]
   refine qX o ?_;exact d
theorem zY5(O:Z.Ok){f:Addr}{c:Nat}{u:List (Nat×Addr)}{d:FD}{ps L:List Nat}{b:Ss}{as:List AV}{Q:AV->St->Prop}(hf:H.fn c f=some u)(hd:uR Z.K c=some d)(D:Ib d ps L)(K:u.map (·.1)=L)(B:ps.length=as.length)
  (hB:∀(eV:Env)(F:Fm)(m:M)(Q':Fl->M->St->Prop)(H':St),zV eV F d.scope.names->O6 Z n F qM b m Q' H'->qF Z n eV.locals m (qQ8 d.body eV) H' (FQ Q') qM)
  (w:O6 Z n (λk=>u.lookup k) qM b (ups (λ_=>none) ps as) (lP Q) H):qB Z (n+1) f as H Q qM:=by
 refine⟨.inr (Jj c u hf),λvs iv A E Qc W s hA X Y hl kq kx=>?_⟩;refine qK (zN3 Y hf) λz1 _=>?_;obtain⟨fd,d',ct,c',e1,e2,i,e4,e5⟩:=z1;obtain rfl:=sj hd e2;have t:(fd.params.args.map (·.arg)).Nodup:=by
  refine qX i ?_;show(d.params.args.map (·.arg)).Nodup;exact qX (D.p6) (hU (λk j=>(D.Ir k j).1) D.nd)
 have C:zM2 fd ⟨vs,[]⟩=pure ((ps.map nm).zip vs):=by
  have:=Qv (fd:=fd) (vs:=vs) (qX i D.p1) (qX i D.p2) (qX i D.p3) (qX i D.p4) (qX i rfl) t (by rw[i];show _=(d.params.args.map (·.arg)).length;rw[D.p6,S6,B,iv.length]);refine qX (this) (qX (i) ?_);show pure ((d.params.args.map (·.arg)).zip vs)=_;exact qX (D.p6) rfl
 have g:fd.scope=d.scope:=qX i rfl;refine qV1 (wM3 (fd:=fd) (body:=d.body) (binds:=(ps.map nm).zip vs) ?_ e1 rfl (O.nolimit.keeps Y.old) (by rw[i];exact e4) (by rw[i]) (wJ5.of_eq C) (by rw[g];exact D.cell) (λx hx=>?_) (λh1 N G=>?_) (by rw[g];exact D.co) (by rw[g];exact D.gen) (by rw[g];exact D.kind))
 ·have:=hA.depth;show A.depth<1000;lia
 ·have hm:=(qR9 (show(x.1,x.2)∈_ from hx)).1;refine qY (T8.mp hm) λp I e=>?_;exact qX (C6 (e)) (qX (g) ((D.Ir p I).2))
 ·refine qK (Y.more (tk:=s.toks+((ps.map nm).zip vs).length) G) λr1 f1=>jL (Y.free O (Nat.le_refl s.heap.objs.size)) λn0 k0 z0 aa=>?_;have P:dJ W s.heap s.heap.objs.size:=λo e=>by rw[n0] at e;exact uZ e
  generalize h:callEnv fd s.heap.objs.size f=eV at*;have R:eV.locals=s.heap.objs.size:=qX (C6 (h)) rfl;have lo:wN W h1 eV.locals (ups (λ_=>none) ps as):=by
   refine qX (R) ?_;refine⟨k0,_,N,λk j=>?_⟩;have:=Ic iv (mm:=λ_=>none) (m:=λ_=>none) (λp I=>(D.Ir p I).1) B (λ_ _=>.none) k j;cases J:((ps.map nm).zip vs).reverse.lookup (nm k) with
   |some v=>rw[J] at this;exact this.w
   |none=>rw[J] at this;exact this.w
  have S:eV.cells=u.map λp=>(nm p.1,p.2):=by rw[<-h];show fd.closure=_;rw[i]
  have T:∀{l:List (Nat×Addr)}(k:Nat),(∀p∈l,p.1<NN)->k<NN->(l.map λp=>(nm p.1,p.2)).lookup (nm k)=l.lookup k:=by
   intro l k hl j;induction l with
   |nil=>rfl
   |cons p r ih=>
    refine qX (B6) (qX (qQ1) (qX (qQ1) (qX (ih λq J=>hl q (S9 _ J)) ?_)));by_cases z:k=p.1
    ·subst z;simp
    ·have z1:(k==p.1)=false:=by simpa using z
     have z2:(nm k==nm p.1)=false:=by simp only[beq_eq_false_iff_ne,ne_eq];exactλy=>z (yI j (hl p T3) y)
     exact qX (z1) (qX (z2) rfl)
  have U:∀p∈u,p.1<NN:=λp I=>D.ck _ (qX (C6 (K)) (T8.mpr (qZ p I rfl)));have EO:zV eV (λk=>u.lookup k) d.scope.names:=by
   refine⟨by rw[<-h];show fd.scope.kind=_;rw[g];exact D.kind,by rw[<-h];show fd.scope.names=_;rw[g],by rw[<-h];show fd.globals=_;rw[i],by rw[<-h];show fd.builtins=_;rw[i],λk a j _ X=>?_,λx hx=>?_⟩
   ·exact qX (S) (qX (T k U j) (X))
   ·have hm:(x,NameKind.free)∈d.scope.names:=by
     refine qQ0 hx (λq=>?_) λq=>?_
     ·exact absurd rfl (D.cell _ (mem_of_lookup q))
     ·exact mem_of_lookup q
    refine qY (D.free _ hm rfl) λk j e=>?_;refine qX (show x=nm k from e) (qX (S) (qX (T k U (D.ck k j)) ?_));rw[<-K] at j;refine qY (T8.mp j) λp I e=>?_;cases J:u.lookup k with
    |some a=>exact yU a rfl
    |none=>
     rw[qX6] at J;have:=J p I;simp[e] at this
  have FE:cD Z W h1 eV:=⟨EO.kind,eV.locals,_,qX (C6 (h)) rfl,qX R N,lo.own,qX R z0⟩;refine hB eV _ _ _ _ EO w (A.deeper eV) _ _ W _ hA.deep ((X.pT f1).deep FE) r1 lo (.deep X (qX R z0) (qX (C6 (h)) rfl)) (λfl s3 V H3 m3 r3 f3 ab q3=>?_) (λ_ _ _ _ _ _ q=>q.elim);have f4:=f1.Vx (by rw[R];exact P) f3 λv0=>Wr v0 λ_ _ q=>q.elim;cases fl with
  |next=>exact kq _ s3 V H3 r3 f4 (qZ _ .none q3)
  |ret v=>
   refine qY q3 λa ia q=>?_;exact kq _ s3 V H3 r3 f4 (qZ _ ia q)
  |brk=>exact q3.elim
  |cont=>exact q3.elim
theorem Id:∀{names:List (Str×NameKind)}(i:Nat)(acc:List (Str×Addr))(h:Heap),(names.filter λx=>x.2==.cell)=[]->qZ8 i names acc=acc∧qB6 h names=h:=by
 intro names;induction names with
 |nil=>
  intro i acc h _;exact⟨rfl,rfl⟩
 |cons b r c=>
  intro i acc h e;obtain⟨x,k⟩:=b;by_cases q:k=.cell
  ·subst q;simp at e
  ·have a:(k==NameKind.cell)=false:=by simpa using q
   replace e:=A6▸e;simp only[a,Bool.false_eq_true,if_false] at e;unfold qZ8 qB6;refine qX (a) (qX (D9 Bool.false_ne_true) (qX (D9 Bool.false_ne_true) ?_));exact c i acc h e
theorem Ie:∀{names:List (Str×NameKind)}{x:Str}(i:Nat)(acc:List (Str×Addr))(h:Heap),(names.filter λx=>x.2==.cell).map (·.1)=[x]->qZ8 i names acc=(x,i)::acc∧qB6 h names=h.push {cls:=.type "cell",data:=.cell none}:=by
 intro names;induction names with
 |nil=>
  intro x i acc h e;simp at e
 |cons d r f=>
  intro x i acc h e;obtain⟨y,k⟩:=d;by_cases q:k=.cell
  ·subst q;replace e:=A6▸e;simp only[beq_self_eq_true,if_true,B6,qJ1,qJ7] at e;obtain⟨rfl,e⟩:=e;unfold qZ8 qB6;have c:(NameKind.cell==NameKind.cell)=true:=rfl;refine qX (A3 c) (qX (A3 c) ?_);obtain⟨a,b⟩:=Id (i+1) ((y,i)::acc) (h.push {cls:=.type "cell",data:=.cell none}) e;exact⟨a,b⟩
  ·have c:(k==NameKind.cell)=false:=by simpa using q
   replace e:=A6▸e;simp only[c,Bool.false_eq_true,if_false] at e;unfold qZ8 qB6;refine qX (c) (qX (D9 Bool.false_ne_true) (qX (D9 Bool.false_ne_true) ?_));exact f i acc h e
theorem Hc{b:Model}{A:O3}{E:Value->S8->Prop}{s:S8}{scope:Scope}{globals:Addr}{closure:List (Str×Addr)}{qual:Str}{eV:Env}{x:Str}{Q:Env->S8->Prop}(c:(scope.names.filter λx=>x.2==.cell).map (·.1)=[x])
  (h:Q {scope,locals:=s.heap.objs.size,globals,cells:=(x,s.heap.objs.size+1)::closure,qual,func:=none,code:=eV.code,frame:=eV.frame,builtins:=eV.builtins} {s with heap:=(s.heap.push {cls:=.type "dict",data:=.dict #[]}).push {cls:=.type "cell",data:=.cell none}}):
  D8 b A (qE6 scope globals closure [] qual none .none (some eV)) Q E s:=by
 simp only[qE6,Option.isSome_some,if_true];refine R8 (wpAny_alloc ?_);refine R8 (wpAny_layCells _ (λname a cells=>by cases hkc:a==NameKind.cell<;>simp[hkc]) _ _ _ _ ?_);obtain⟨e1,e2⟩:=Ie ((s.heap.push {cls:=.type "dict",data:=.dict #[]}).objs.size) closure (s.heap.push {cls:=.type "dict",data:=.dict #[]}) c;refine R8 (S5 (S5 ?_));rw[e1,e2,qW3];exact h
structure Hd(ks:List (Str×NameKind))(scope:Scope)(t:Nat):Prop where
 kind:scope.kind=.function
 lt:t<NN
 cell:(scope.names.filter λx=>x.2==.cell).map (·.1)=[nm t]
 N9:∀x∈scope.names,x.2=.local->scope.names.lookup x.1=some .local
 free:∀x∈scope.names,x.2=.free->(ks.lookup x.1=some .cell∨ks.lookup x.1=some .free)∧x.1≠nm t
noncomputable def Qu(a:List (Str×NameKind))(scope:Scope)(t:Nat):Bool:=
 (scope.kind==.function)&&Nat.blt t NN&&((scope.names.filter λx=>x.2==.cell).map (·.1)==[nm t])&&scope.names.all λx=>(x.2 !=.local||scope.names.lookup x.1==some .local)&&(x.2 !=.free||((a.lookup x.1==some .cell||a.lookup x.1==some .free)&&x.1 !=nm t))
theorem Bi(h:Qu ks scope t=true):Hd ks scope t:=by
 simp only[Qu,Bool.and_eq_true,beq_iff_eq,D5,bne_iff_ne,Bool.or_eq_true,Nat.blt_eq] at h;refine⟨h.1.1.1,h.1.1.2,h.1.2,λx a k=>?_,λx a k=>?_⟩
 ·refine qQ0 ((h.2 x a).1) (λq=>?_) λq=>?_
  ·exact absurd k q
  ·exact q
 refine qQ0 ((h.2 x a).2) (λq=>?_) λq=>?_
 ·exact absurd k q
 ·exact q
theorem Yp(d:zV eV F ks)(S:Hd ks scope t)(C c:Addr):zV (qX2 scope ((nm t,c)::xW eV scope.names) C eV) (λj=>if j=t then some c else F j) (jJ ks scope.names) where
 kind:=S.kind
 names:=by
  show(zQ4 scope eV).names=_;unfold zQ4 jJ qX9;refine qX (d.kind) (qX (d.names) ?_);simp
 globals:=d.globals
 builtins:=d.builtins
 cells:=λk a l h i=>by
  refine qX (qQ1) ?_;by_cases q:k=t
  ·subst q;rw[A3 rfl] at i;cases i;simp
  ·rw[D9 q] at i;have f:(nm k==nm t)=false:=by simp only[beq_eq_false_iff_ne,ne_eq];exactλe=>q (yI l S.lt e)
   refine qX (f) ?_;have g:(nm k,NameKind.free)∈scope.names:=by
    refine qQ0 (kM h) (λz=>?_) λz=>?_
    ·exact z
    ·have:nm k∈(scope.names.filter λx=>x.2==.cell).map (·.1):=T8.mpr (qZ _ (T6.mpr ⟨z,rfl⟩) rfl);replace this:=S.cell▸this;exact absurd (yI l S.lt (by simpa using this)) q
   have b:=(S.free _ g rfl).1;refine qX (lO g (d.has _ b)) ?_;exact d.cells k a l b i
 has:=λx h=>by
  refine qX (qQ1) ?_;by_cases q:x=nm t
  ·subst q;exact yU c (by simp)
  ·have f:(x==nm t)=false:=by simpa using q
   refine qX (f) ?_;have g:(x,NameKind.free)∈scope.names:=by
    refine qQ0 (kM h) (λz=>?_) λz=>?_
    ·exact z
    ·have:x∈(scope.names.filter λx=>x.2==.cell).map (·.1):=T8.mpr (qZ _ (T6.mpr ⟨z,rfl⟩) rfl);replace this:=S.cell▸this;exact absurd (by simpa using this) q
   have b:=(S.free _ g rfl).1;refine qX (lO g (d.has _ b)) ?_;exact d.has _ b
theorem Ia(hh:Z.hd=none)(O:Z.Ok)(EO:zV eV F ks){scope:Scope}{t:Nat}(S:Hd ks scope t)(hl:(jJ ks scope.names).lookup (nm t)=some .cell){Y iter:Expr}{kp tp pos:Pos}{tag:Nat}{Q:AV->St->Prop}{V:Addr->(AV->St->Prop)->St->Prop}
  (hp:yY iter=true)
  (hV:∀C c u H',V c u H'->R9 Z n (some (C,λ_=>none)) (eval Y (qX2 scope ((nm t,c)::xW eV scope.names) C eV)) H' (VQ u) qM)
  (hS:kX Z n lc (eval iter eV) H (λvs inv H1=>vs.length<1000∧∀c,qD H1 c->xB inv (λx u H'=>T9 (H'.qG t c) λ_=>T9 ((H'.qU t c (some x)).qG t c) λo=>T9 o λx'=>T9 (sr x') λk=>V c (λy H3=>u (some (k,y)) H3) (H'.qU t c (some x))) vs []
   (λJ H'=>∀l,qD H' l->Q (.ref l) (H'.xV tag l (vC J))) (H1.qU t c none))):
  R9 Z n lc (eval (.DictComp (.Name (nm t) kp) Y [⟨.Name (nm t) tp,iter,[],0⟩] scope pos) eV) H (VQ Q) qM:=by
 intro A E Qc κ s hA hF hR ah kq ce;show D8 _ A (comprehension (.DictComp (.Name (nm t) kp) Y [⟨.Name (nm t) tp,iter,[],0⟩] scope pos) scope eV _ newDict false (eval iter eV)) _ _ s;refine qV9 (use:=none) (cl:=xW eV scope.names) rfl (tH hp eV) (lL λx hx k=>EO.has _ (S.free x hx k).1) S.kind S.N9 ?_;refine hS A E _ κ s hA hF hR ah λI g aa H1 vs inv P r1 f1 nI k1 z1 W p1 q1=>?_;refine qK q1 λcf w=>?_;clear q1;refine qQ4 ?_ (by first|trivial|exact Nat.zero_le _|(unfold sizeOk;simp));refine Hc S.cell ?_;dsimp only;generalize K:g.heap.push {cls:=.type "dict",data:=.dict #[]}=h2;have e2:h2.objs.size=g.heap.objs.size+1:=by rw[<-K,qW3]
 generalize z:h2.push {cls:=.type "dict",data:=.dict #[]}=h3;have e3:h3.objs.size=h2.objs.size+1:=by rw[<-z,qW3]
 have ab:g.heap.objs.size≤h2.objs.size:=qX e2 (Nat.le_succ _);have bb:g.heap.objs.size≤h2.objs.size+1:=Nat.le_succ_of_le ab;refine jL (r1.free O (Nat.le_refl g.heap.objs.size)) λL kD zD bc=>jL (r1.free O ab) λM kC zC _=>jL (r1.free O bb) λac kc zc bd=>?_;have ae:g.heap.objs.size≠h2.objs.size:=qX e2 (Nat.ne_of_lt (Nat.lt_succ_self _));have be:g.heap.objs.size≠h2.objs.size+1:=qX e2 (Nat.ne_of_lt (Nat.le_add_right (Nat.succ (qA4 (PySem.Heap.objs (PySem.Shared.heap g)))) 1));have bf:h2.objs.size≠h2.objs.size+1:=by exact Nat.ne_of_lt (Nat.le_refl (Nat.succ (qA4 (PySem.Heap.objs h2))))
 have gD:(h3.push {cls:=.type "cell",data:=.cell none}).get? g.heap.objs.size=some {cls:=.type "dict",data:=.dict #[]}:=by
  refine S7 _ ?_;refine qX (C6 (z)) ?_;refine S7 _ ?_;exact qX (C6 (K)) (B3 _ rfl)
 have gC:(h3.push {cls:=.type "cell",data:=.cell none}).get? h2.objs.size=some {cls:=.type "dict",data:=.dict #[]}:=by
  refine S7 _ ?_;exact qX (C6 (z)) (B3 _ rfl)
 have gc:(h3.push {cls:=.type "cell",data:=.cell none}).get? (h2.objs.size+1)=some {cls:=.type "cell",data:=.cell none}:=by
  exact qX (C6 (e3)) (B3 _ rfl)
 have hk:∀b o,g.heap.get? b=some o->(h3.push {cls:=.type "cell",data:=.cell none}).get? b=some o:=λb o e=>by
  refine S7 _ ?_;refine qX (C6 (z)) ?_;refine S7 _ ?_;exact qX (C6 (K)) (S7 _ e)
 refine qK (r1.more (tk:=g.toks) hk) λr2 f2=>?_;have r3:=r2.adopt (c:=.qG t none) kc zc bd (by
  intro q y1;refine Tb y1 λc' oc vs tt e' g2 g3 g4=>?_;clear y1;cases e';have:=gc.symm.trans g2;cases this;cases g3) (xO _ _ gc rfl .none) ((r2.view.fresh kc).Et (zG ..))
 have j:∀a,g.heap.get? a=none->dJ κ s.heap a:=λa ha=>dJ.pT (λo e=>by rw[ha] at e;cases e) f1;have f3:yL κ s.heap (wM aa (h2.objs.size+1) (.qG t none)) (h3.push {cls:=.type "cell",data:=.cell none}):=λb o e k=>by
  refine qK ((f1.trans f2) b o e k) λe' k'=>?_;exact⟨e',qX (zM (by rintro rfl;exact j _ ac o e k)) k'⟩
 refine zH (W.live _ _ p1) λoI eI=>?_;have N:∀a,g.heap.get? a=none->I≠a:=λa ha q=>by rw[q,ha] at eI;cases eI
 have af:=Yp EO S h2.objs.size (h2.objs.size+1);have lo:wN (wM aa (h2.objs.size+1) (.qG t none)) (h3.push {cls:=.type "cell",data:=.cell none}) h2.objs.size (λ_=>none):=
  ⟨by rw[zM bf];exact kC,λ_=>none,Km _ _ _ gC rfl (λe he=>by simp at he) (λ_=>rfl),λk _=>Fk.none.w⟩
 have a0:aS Z.w g.heap.objs.size (h3.push {cls:=.type "cell",data:=.cell none}) []:=qZ ([]) (cM _ _ _ gD ⟨rfl,rfl,rfl⟩ rfl (λe he=>by simp at he) .nil (by simp)) .nil;have p2:=W.frame _ _ _ p1 λo e=>hk _ _ e;have w':=w (h2.objs.size+1) (xL r1.view kc);have G:∀s4:S8,s4={g with heap:=h3.push {cls:=.type "cell",data:=.cell none}}->
   qW6 (model O7 Z.w) A (.compLoop (.DictComp (.Name (nm t) kp) Y [⟨.Name (nm t) tp,iter,[],0⟩] scope pos) 0 (.ref I) (.ref g.heap.objs.size) (qX2 scope ((nm t,h2.objs.size+1)::xW eV scope.names) h2.objs.size eV)) (zM0 (model O7 Z.w) A E none Qc (.ref g.heap.objs.size) h2.objs.size) s4:=by
  rintro s4 rfl
  refine Yx (H0:=H1.qU t (h2.objs.size+1) none) (Lp:=λm=>m=λ_=>none) (p:=iter.pos) (emit:=Ry (.Name (nm t) kp) Y (.ref g.heap.objs.size) (qX2 scope ((nm t,h2.objs.size+1)::xW eV scope.names) h2.objs.size eV)) (target:=.Name (nm t) tp) (ifs:=[])
   (T:=λv H f=>T9 (H.qG t (h2.objs.size+1)) λ_=>f (λ_=>none) (H.qU t (h2.objs.size+1) (some v))) (IT:=λ_ u H'=>u true H')
   (El:=λm' u H'=>T9 (H'.qG t (h2.objs.size+1)) λo=>T9 o λx'=>T9 (sr x') λk=>V (h2.objs.size+1) (λy H3=>u (k,y) H3) H') (Acc:=aS Z.w g.heap.objs.size) (D:=g.heap.objs.size) (Il ..) (λQ E s' h=>by
    show D8 _ A ((qS5 (.DictComp (.Name (nm t) kp) Y [⟨.Name (nm t) tp,iter,[],0⟩] scope pos) 0 (.ref I) (.ref g.heap.objs.size) (qX2 scope ((nm t,h2.objs.size+1)::xW eV scope.names) h2.objs.size eV)).onRaise (λx=>do qP6 x (qX2 scope ((nm t,h2.objs.size+1)::xW eV scope.names) h2.objs.size eV);qU6 x)) _ _ s';rw[Yv];exact h) hA hF nI (j _ L) (j _ M) (N _ L) (N _ M) ae r3 f3 (by rw[zM (N _ ac)];exact k1) (by rw[zM be];exact kD) z1 zC W p2 a0 lo rfl (by lia) (λh J a=>a.live) (λh h' J a k=>a.keep k)
   (λv x m H' f i d w=>?_) (λm' u H' q=>nV q) (λbg s' H' m' J u Qc E bh r' R dm r U cg B k'=>?_) (by simpa using w') (λs' bg H' J m' r' f' r U R q=>?_)
  ·refine qY w λo ho w=>?_;subst d;exact kW (R9.toS (pD af S.lt hl (by simp) ho i ⟨w,rfl⟩))
  ·refine qY B λo ho z1=>?_;clear B;refine qY z1 λx' ca z2=>?_;clear z1;refine qY z2 λk cb B=>?_;clear z2;obtain rfl:=iP cb;subst ca;subst dm;exact Yk hA bh r' R zD r U (yU k (Av af S.lt (.inl hl) (by simp) ho ⟨rfl,hV _ _ _ _ B⟩)) k'
  ·obtain⟨cc,mm,X,_⟩:=id R;refine qZ mm X (λh' hs=>?_);refine gL X λo es ep g1 g2 _=>?_;clear X;refine qK (r'.Fc (tk:=s'.toks) cc zC (jN o es ep g1 g2) hs.extBut) λr5 f5=>?_;have ag:=U.keep λo e=>hs.extBut _ o ae e;refine qY (id ag) λcd hx i=>?_;have r6:=r5.adopt (c:=.sd tag (vC J)) r zD bc ag.uD (qZ cd hx i) ((r5.view.fresh r).Es (t:=tag) (l:=vC J) (zG ..));refine kq _ _ _ _ r6 (λb o e k=>?_) (qZ _ (.ref _) (q _ (xL r'.view r)));refine qK (f' b o e k) λe' k'=>?_;have b1:b≠h2.objs.size:=by rintro rfl;exact j _ M o e k
   have b2:b≠g.heap.objs.size:=by rintro rfl;exact j _ L o e k
   exact⟨hs.extBut b o b1 e',qX (zM b2) k'⟩
 exact zQ6 (G _ rfl) (W.self A _ _ 0 _ hA.hd p2 (G _ rfl))
noncomputable def He(K:Frag)(a:List (Str×NameKind))(k:Nat)(e:Expr):Bool:=vT e λx _=>sE x (nm k)&&kQ a (nm k) .globalImplicit&&gR K k .none
theorem Lf{K:Frag}{a:List (Str×NameKind)}(h:He K a k e=true):∃p,e=.Name (nm k) p∧a.lookup (nm k)=some .globalImplicit∧gR K k .none=true:=by
 refine yX (lW h) λx p b q=>?_;subst b;refine qK (qO q) λq c=>qK (qO q) λd f=>?_;exact zU p (qX (Jp d) rfl) (Jg f) c
noncomputable def gT(K:Frag)(b:List (Str×NameKind))(k:Nat)(a:AV)(e:Expr):Bool:=jM b k .globalImplicit e&&gM K k a
noncomputable def zU8(e:Expr):Bool:=!(Nat.beq (jC e) 26)
noncomputable def Ii(op:L5)(o:Operator):Bool:=decide (o=F5 op)
noncomputable def gB(o:Expr)(a:List Expr)(b pos:Pos):Bool:=gN o&&wK a&&Nat.blt a.length 30&&(b.endLine==pos.line)
noncomputable def Rl(name:Str)(e:Expr)(f:Expr->List Expr->Bool):Bool:=Jf e λh a c d=>c.isEmpty&&gP h λo g b=>gB o a b d&&sE g name&&f o a
theorem Lh(h:Rl name e f=true):∃o a b pos,e=.Call (.Attribute o name b) a [] pos∧gB o a b pos=true∧f o a=true:=by
 refine tW (Ks h) λn a g pos c q=>?_;subst c;refine qK (qO q) λi q=>jP (oV q) λo j b c d=>?_;subst c;refine qK (qO d) λd k=>qK (qO d) λl m=>?_;exact⟨o,a,b,pos,qX (Jp m) (qX (E6.mp i) rfl),l,k⟩
noncomputable def nA(e:Expr)(f:Expr->List Expr->Bool):Bool:=Jf e λg a b _=>b.isEmpty&&wK a&&f g a
theorem Rp(h:nA e f=true):∃g a pos,e=.Call g a [] pos∧wK a=true∧f g a=true:=by
 refine tW (Ks h) λg a b pos c q=>?_;subst c;refine qK (qO q) λq d=>qK (qO q) λi j=>?_;exact zE4 g a pos (qX (E6.mp i) rfl) j d
noncomputable def U6(K:Frag)(b:List (Str×NameKind))(k:Nat)(e:Expr)(f:List Expr->Bool):Bool:=nA e λg a=>He K b k g&&f a
theorem Io{K:Frag}{c:List (Str×NameKind)}(h:U6 K c k e f=true):∃p a pos,e=.Call (.Name (nm k) p) a [] pos∧wK a=true∧c.lookup (nm k)=some .globalImplicit∧gR K k .none=true∧f a=true:=by
 refine gL (Rp h) λg a pos b d q=>?_;subst b;refine qK (qO q) λi j=>zX (Lf i) λp b l m=>?_;subst b;exact wF8 p a pos rfl d l m j
noncomputable def lG(e:Expr)(f g:Expr->Bool):Bool:=Kt e λv s _=>f v&&g s
theorem zF3(h:lG e f g=true):∃v s p,e=.Subscript v s p∧f v=true∧g s=true:=by
 refine jP (Nh h) λv s p a q=>?_;subst a;exact jN v s p rfl (qO q)
noncomputable def Oq(e:Expr)(f:Const->Bool):Bool:=if h:e.ctorIdx=26 then Expr.Slice.elim (motive_1:=λ_=>Bool) e h (λl u s _=>l.isNone&&s.isNone&&pB u λu=>fV u λc _ _=>f c) else false
theorem zF1(h:Oq e f=true):∃c kd d g,e=.Slice none (some (.Constant c kd d)) none g∧f c=true:=by
 have i:e.ctorIdx=26:=by
  by_cases q:e.ctorIdx=26
  ·exact q
  ·exact Bool.noConfusion ((dif_neg q).symm.trans h)
 have j:=(dif_pos i).symm.trans h;refine Expr.Slice.elim (motive_1:=λe=>∀h:e.ctorIdx=26,Expr.Slice.elim (motive_1:=λ_=>Bool) e h (λl u s _=>l.isNone&&s.isNone&&pB u λu=>fV u λc _ _=>f c)=true->∃c kd d g,e=.Slice none (some (.Constant c kd d)) none g∧f c=true) e i (λl u s p _ j=>?_) i j;refine qK (qO (a:=l.isNone&&s.isNone) (b:=pB u λu=>fV u λc _ _=>f c) j) λm n=>qK (qO m) λo r=>?_;obtain rfl:=E4.mp o;obtain rfl:=E4.mp r;refine qY (sZ n) λu k t=>?_;subst k;refine jP (Jh t) λc kd d k v=>?_;subst k;exact⟨c,kd,d,p,rfl,v⟩
noncomputable def Qk(K:Frag)(b:List (Str×NameKind))(ik:Ik)(f:Expr->Bool)(iter:Expr):Bool:=match ik with
 |.dZ=>U6 K b 80 iter λa=>wC a f
 |_=>f iter
noncomputable def L7(K:Frag)(c:List (Str×NameKind))(t:Tg)(ik:Ik)(g:List (Str×NameKind)->Expr->Bool)(it:Expr->Bool)(ifs:List (Str×NameKind)->List Expr->Bool)(e:Expr):Bool:=Bx e λd h a _=>Xd h λb iter f=>
 iF c a&&yY iter&&eE (jJ c a.names) t b&&g (jJ c a.names) d&&ifs (jJ c a.names) f&&Qk K c ik it iter
structure LcOk(K:Frag)(ks:List (Str×NameKind))(t:Tg)(ik:Ik)(elt:List (Str×NameKind)->Expr->Bool)(it:Expr->Bool)(ifs:List (Str×NameKind)->List Expr->Bool)(elt' target iter:Expr)(ifs':List Expr)(scope:Scope):Prop where
 S:gS ks scope
 p:yY iter=true
 t:eE (jJ ks scope.names) t target=true
 e:elt (jJ ks scope.names) elt'=true
 i:ifs (jJ ks scope.names) ifs'=true
 it:Qk K ks ik it iter=true
theorem Oz{K:Frag}{g:List (Str×NameKind)}{t:Tg}{ik:Ik}{d:List (Str×NameKind)->Expr->Bool}{it:Expr->Bool}{ifs:List (Str×NameKind)->List Expr->Bool}{e:Expr}(h:L7 K g t ik d it ifs e=true):
  ∃b target iter a scope pos,e=.ListComp b [⟨target,iter,a,0⟩] scope pos∧LcOk K g t ik d it ifs b target iter a scope:=by
 refine tW (zC1 h) λb o scope pos f q=>?_;subst f;refine jP (Nm q) λtarget iter a f c=>?_;subst f;refine qK (qO c) λc i=>qK (qO c) λc j=>qK (qO c) λc k=>qK (qO c) λc l=>qK (qO c) λm n=>?_;exact⟨b,target,iter,a,scope,pos,rfl,Ll m,n,l,k,j,i⟩
mutual
noncomputable def yJ(K:Frag):X->List (Str×NameKind)->Expr->Bool
 |.bad,_,_=>true
 |.R3 a,_,e=>fV e λc _ _=>gH c a
 |.N9 k,h,e=>jM h k .local e
 |.qG k,h,e=>jM h k .cell e||jM h k .free e
 |.R5 k a,h,e=>gT K h k a e
 |.R4 C e k,h,n=>gP n λo E _=>yJ K e h o&&gN o&&sE E (nm k)&&Nat.blt k NN&&qF8 K C k
 |.wZ _ e i,h,n=>lG n (yJ K e h) (yJ K i h)
 |.xS e i,h,n=>lG n (yJ K e h) (yJ K i h)
 |.Bv i,h,n=>lG n (Ax 6) (yJ K i h)
 |.qA _ e i,h,n=>lG n (yJ K e h) (yJ K i h)
 |.subQ _ e i,h,n=>lG n (yJ K e h) (yJ K i h)
 |.nE e i,h,n=>lG n (yJ K e h) (yJ K i h)
 |.bin op a b,h,n=>Xc n λl o r _=>Ii op o&&yJ K a h l&&yJ K b h r
 |.R6 op a b,h,n=>oJ n λl os N _=>wC os λo=>wC N λr=>(o==mop op)&&(qU1 o r==false)&&yJ K a h l&&yJ K b h r
 |.not e,h,n=>eK n λo x _=>(o==.Not)&&yJ K e h x
 |.and A,h,n=>lD n λo F _=>(o==.And)&&gE K A h F
 |.or A,h,n=>lD n λo F _=>(o==.Or)&&gE K A h F
 |.ite t a b,h,n=>Nf n λG H B _=>Yy K t h G&&yJ K a h H&&yJ K b h B
 |.list _ A,h,n=>Jm n λw _=>wK w&&gE K A h w
 |.tup A,h,n=>eG n λw _ _=>wK w&&gE K A h w
 |.dict _ J F,h,n=>cO n λy q _=>uB J y&&Nat.blt J.length 15&&Nat.blt 0 J.length&&gE K F h q&&Nat.beq J.length q.length
 |.oH _,_,n=>cO n λy q _=>y.isEmpty&&q.isEmpty
 |.oM,_,n=>cO n λy q _=>y.isEmpty&&q.isEmpty
 |.call f A,h,n=>nA n λg m=>vT g λ_ _=>yJ K f h g&&gE K A h m
 |.oN C e k f A,h,n=>Rl (nm k) n λo m=>yJ K e h o&&Nat.blt k NN&&qT6 K C&&(qN9 K C (nm k)==some (some (.ref f)))&&isFn K (.ref f)&&gE K A h m
 |.oR C e k A,h,n=>Rl (nm k) n λo m=>yJ K e h o&&Nat.blt k NN&&qF8 K C k&&gE K A h m
 |.uX _ e,h,n=>U6 K h 11 n λm=>wC m (yJ K e h)
 |.max2 a b,h,n=>U6 K h 12 n λm=>yR m λp r=>yJ K a h p&&wC r (yJ K b h)
 |.Jn _ e,h,n=>U6 K h 13 n λm=>wC m (yJ K e h)
 |.sortI _ e,h,n=>U6 K h 123 n λm=>wC m (yJ K e h)
 |.zO _ L t O it M,h,n=>L7 K h t O (yJ K L) (yJ K it h) (Lm K M) n
 |.eH _ t v it,h,n=>Ea n λk P Q u _=>Xd Q λD iter I=>I.isEmpty&&iF h u&&yY iter&&eE (jJ h u.names) (.one t) D&&jM (jJ h u.names) t .local k&&yJ K v (jJ h u.names) P&&yJ K it h iter
 |.append _ e x,h,n=>Rl "append" n λo m=>yJ K e h o&&wC m (yJ K x h)
 |.pop _ e,h,n=>Rl "pop" n λo m=>yJ K e h o&&m.isEmpty
 |.Fi _ e,h,n=>Rl "pop" n λo m=>yJ K e h o&&wC m λz=>fV z λc _ _=>M9 c 0
 |.remove _ e x,h,n=>Rl "remove" n λo m=>yJ K e h o&&wC m (yJ K x h)
 |.Kd _ e k d,h,n=>Rl "get" n λo m=>yJ K e h o&&yR m λa r=>yJ K k h a&&wC r (yJ K d h)
 |.dX _,h,n=>lG n (jM h 120 .local) λs=>Oq s λc=>gH c (.int 63)
 |.extend _ _ e x,h,n=>Rl "extend" n λo m=>yJ K e h o&&wC m (yJ K x h)
 |.rQ i,h,n=>lG n (gT K h 175 (.ref 567)) (yJ K i h)
 |.eR i,h,n=>lG n (gT K h 176 (.ref 566)) (yJ K i h)
 |.neg j,_,n=>eK n λo x _=>(o==.USub)&&fV x λc _ _=>M9 c j
 |.sX _ _ _ _,_,_=>false
 |.gG,h,n=>U6 K h 11 n λm=>wC m (gT K h 176 (.ref 566))
 |.mulL _ _ e i,h,n=>Xc n λl o r _=>(o==.Mult)&&yJ K e h l&&yJ K i h r
 |.Bu,_,n=>Xc n λl o r _=>(o==.Pow)&&(fV l λc _ _=>M9 c 10)&&fV r λc _ _=>M9 c 9
noncomputable def gE(K:Frag):Xs->List (Str×NameKind)->List Expr->Bool
 |.nil,_,l=>l.isEmpty
 |.cons x r,b,l=>yR l λa l=>yJ K x b a&&gE K r b l
noncomputable def Yy(K:Frag):Tt->List (Str×NameKind)->Expr->Bool
 |.not t,a,e=>eK e λo x _=>(o==.Not)&&Yy K t a x
 |.and ts,a,e=>lD e λo b _=>(o==.And)&&Lm K ts a b
 |.or ts,a,e=>lD e λo b _=>(o==.Or)&&Lm K ts a b
 |.lst _ x,a,e=>dY e&&yJ K x a e
 |.val x,a,e=>dY e&&yJ K x a e
noncomputable def Lm(K:Frag):dW->List (Str×NameKind)->List Expr->Bool
 |.nil,_,l=>l.isEmpty
 |.cons t r,b,l=>yR l λa l=>Yy K t b a&&Lm K r b l
end
noncomputable def zD8(K:Frag)(a:List (Str×NameKind))(t:T)(e:Expr):Bool:=match t with
 |.N9 k=>jM a k .local e
 |.qG k=>jM a k .cell e
 |.R4 C x k=>gP e λo b _=>yJ K x a o&&sE b (nm k)&&qT0 K C k
 |.wZ _ x i=>lG e (yJ K x a) (yJ K i a)
 |.qA _ x i=>lG e (yJ K x a) (yJ K i a)
 |.subQ _ x i=>lG e (yJ K x a) (yJ K i a)
 |.nE x i=>lG e (yJ K x a) (yJ K i a)
 |.F4 tks=>eG e λc _ _=>eB a tks c
noncomputable def hM(K:Frag)(b:List (Str×NameKind))(t:T)(x:X)(tg v:Expr):Bool:=match t,x with
 |.N9 y,.zO _ c t f it d=>jM b y .local tg&&L7 K b t f (yJ K c) (yJ K it b) (Lm K d) v&&vT tg λ_ g=>Bx v λ_ _ a e=>(g.line==e.line)&&!(a.names.any λx=>x.1==nm y&&(x.2==.local||x.2==.cell))
 |_,_=>false
noncomputable def wF0(K:Frag)(a:List (Str×NameKind))(t:T)(x:X)(tg v:Expr):Bool:=match t with
 |.qG k=>jM a k .cell tg&&yJ K x a v
 |_=>false
mutual
noncomputable def Bo(K:Frag)(f:List (Str×NameKind)):S->Stmt->Bool
 |.bad,_=>true
 |.expr e,s=>oG s λv _=>lU v&&yJ K e f v
 |.R7 t e,s=>eF s λp v _=>wC p λm=>(lK m v&&yJ K e f v&&zD8 K f t m)||hM K f t e m v||wF0 K f t e m v
 |.aM C e k q x,s=>oU s λt l v _=>gP t λo n _=>Ii q l&&yJ K e f o&&sE n (nm k)&&qF8 K C k&&qT0 K C k&&yJ K x f v
 |.Fo _ e i q x,s=>oU s λt l v _=>Kt t λo j _=>Ii q l&&yJ K e f o&&yJ K i f j&&zU8 j&&yJ K x f v
 |.ret e,s=>sQ s λv _=>pB v (yJ K e f)
 |.Ke,s=>sQ s λv _=>v.isNone
 |.ite t a b,s=>Kc s λh g d _=>Yy K t f h&&Ql K f a g&&Ql K f b d
 |.Jr t b,s=>oP s λh g d _=>d.isEmpty&&Yy K t f h&&Ql K f b g
 |.yM c k r x b,s=>oK s λm iter g d _=>d.isEmpty&&jM f k (qG5 c) m&&yY iter&&Qk K f r (yJ K x f) iter&&Ql K f b g
 |.raise _,_=>false
 |.Bk _ _ _,_=>false
noncomputable def Ql(K:Frag)(b:List (Str×NameKind)):Ss->List Stmt->Bool
 |.nil,l=>l.isEmpty
 |.cons s r,l=>yR l λa l=>Bo K b s a&&Ql K b r l
end
theorem xJ{P:Prop}(h:(a&&b)=true)(k:a=true->b=true->P):P:=k (qO h).1 (qO h).2
theorem Ow{c:Prop} [Decidable c]{f:c->Bool}{P:Prop}(h:(if q:c then f q else false)=true)(k:∀q,f q=true->P):P:=by
 by_cases q:c
 ·rw[dif_pos q] at h;exact k q h
 ·rw[dif_neg q] at h;exact Bool.noConfusion h
theorem vG{P:Prop}(h:(a&&b&&c)=true)(k:a=true->b=true->c=true->P):P:=xJ h λh d=>xJ h λe f=>k e f d
theorem tM{P:Prop}(h:(a&&b&&c&&d)=true)(k:a=true->b=true->c=true->d=true->P):P:=xJ h λh e=>vG h λf g i=>k f g i e
theorem Qp{P:Prop}(h:(a&&b&&c&&d&&e)=true)(k:a=true->b=true->c=true->d=true->e=true->P):P:=xJ h λh f=>tM h λg i j l=>k g i j l f
theorem Ln{P:Prop}(h:(a&&b&&c&&d&&e&&f)=true)(k:a=true->b=true->c=true->d=true->e=true->f=true->P):P:=xJ h λh g=>Qp h λi j l m n=>k i j l m n g
theorem Qg{P:Prop}(h:(a&&b&&c&&d&&e&&f&&g)=true)(k:a=true->b=true->c=true->d=true->e=true->f=true->g=true->P):P:=xJ h λh i=>Ln h λj l m n o p=>k j l m n o p i
@[elab_as_elim] theorem jD{α:Type}{l:List α}{P:List α->Prop}(h:l.isEmpty=true)(k:P []):P l:=E6.mp h▸k
@[elab_as_elim] theorem rX{α:Type} [BEq α] [LawfulBEq α]{a b:α}{P:α->Prop}(h:(a==b)=true)(k:P b):P a:=beq_iff_eq.mp h▸k
@[elab_as_elim] theorem Lr{P:Str->Prop}(h:sE a b=true)(k:P b):P a:=Jp h▸k
noncomputable def Ox(v:Value)(f:Addr->Bool):Bool:=match v with|.ref a=>f a|_=>false
theorem Oy(h:Ox v f=true):∃a,v=.ref a∧f a=true:=by
 cases v with
 |ref a=>exact qZ a rfl h
 |_=>exact Bool.noConfusion h
noncomputable def Qh(v:Value)(f:Int->Bool):Bool:=match v with|.int i _=>f i|_=>false
theorem Qm(h:Qh v f=true):∃i t,v=.int i t∧f i=true:=by
 cases v with
 |int i t=>exact nS i t rfl h
 |_=>exact Bool.noConfusion h
noncomputable def Oj(v:Value):Bool:=match v with|.str _ _=>true|_=>false
theorem Ov(h:Oj v=true):∃s t,v=.str s t:=by
 cases v with
 |str s t=>exact Jj s t rfl
 |_=>exact Bool.noConfusion h
noncomputable def Rg(v:Value):Bool:=match v with|.bool _=>true|_=>false
theorem Cq(h:Rg v=true):∃b,v=.bool b:=by
 cases v with
 |bool b=>exact⟨b,rfl⟩
 |_=>exact Bool.noConfusion h
noncomputable def Ou(d:Data)(f:Array Value->Bool):Bool:=match d with|.fields vs=>f vs|_=>false
theorem Ol(h:Ou d f=true):∃vs,d=.fields vs∧f vs=true:=by
 cases d with
 |fields vs=>exact qZ vs rfl h
 |_=>exact Bool.noConfusion h
noncomputable def Op(d:Data)(f:Array Value->Bool):Bool:=match d with|.seq vs _=>f vs|_=>false
theorem Og(h:Op d f=true):∃vs n,d=.seq vs n∧f vs=true:=by
 cases d with
 |seq vs n=>exact nS vs n rfl h
 |_=>exact Bool.noConfusion h
@[elab_as_elim] theorem pE{P:Expr->Prop}(h:lD e f=true)(k:∀a b c,f a b c=true->P (.BoolOp a b c)):P e:=by
 refine jP (Bw h) λa b c d q=>?_;subst d;exact k _ _ _ q
@[elab_as_elim] theorem iH{P:Expr->Prop}(h:Xc e f=true)(k:∀a c d b,f a c d b=true->P (.BinOp a c d b)):P e:=by
 refine tW (zZ5 h) λa c d b g q=>?_;subst g;exact k _ _ _ _ q
@[elab_as_elim] theorem Vj{P:Expr->Prop}(h:eK e f=true)(k:∀a b c,f a b c=true->P (.UnaryOp a b c)):P e:=by
 refine jP (Ng h) λa b c d q=>?_;subst d;exact k _ _ _ q
@[elab_as_elim] theorem zK7{P:Expr->Prop}(h:Nf e f=true)(k:∀a c d b,f a c d b=true->P (.IfExp a c d b)):P e:=by
 refine tW (zG0 h) λa c d b g q=>?_;subst g;exact k _ _ _ _ q
@[elab_as_elim] theorem Qn{P:Expr->Prop}(h:cO e f=true)(k:∀a b c,f a b c=true->P (.Dict a b c)):P e:=by
 refine jP (Ee h) λa b c d q=>?_;subst d;exact k _ _ _ q
@[elab_as_elim] theorem Of{P:Expr->Prop}(h:Ea e f=true)(k:∀a c g b d,f a c g b d=true->P (.DictComp a c g b d)):P e:=by
 refine wU2 (wX2 h) λa c g b d i q=>?_;subst i;exact k _ _ _ _ _ q
@[elab_as_elim] theorem nU{P:Expr->Prop}(h:fV e f=true)(k:∀a b c,f a b c=true->P (.Constant a b c)):P e:=by
 refine jP (Jh h) λa b c d q=>?_;subst d;exact k _ _ _ q
@[elab_as_elim] theorem tN{P:Expr->Prop}(h:gP e f=true)(k:∀a b c,f a b c=true->P (.Attribute a b c)):P e:=by
 refine jP (oV h) λa b c d q=>?_;subst d;exact k _ _ _ q
@[elab_as_elim] theorem zZ7{P:Expr->Prop}(h:Kt e f=true)(k:∀a b c,f a b c=true->P (.Subscript a b c)):P e:=by
 refine jP (Nh h) λa b c d q=>?_;subst d;exact k _ _ _ q
@[elab_as_elim] theorem Oh{P:Expr->Prop}(h:Jm e f=true)(k:∀a b,f a b=true->P (.List a b)):P e:=by
 refine yX (Ei h) λa b c q=>?_;subst c;exact k _ _ q
@[elab_as_elim] theorem Rf{P:Expr->Prop}(h:eG e f=true)(k:∀a b c,f a b c=true->P (.Tuple a b c)):P e:=by
 refine jP (iV h) λa b c d q=>?_;subst d;exact k _ _ _ q
@[elab_as_elim] theorem tR{P:Stmt->Prop}(h:sQ e f=true)(k:∀a b,f a b=true->P (.Return a b)):P e:=by
 refine yX (Eo h) λa b c q=>?_;subst c;exact k _ _ q
@[elab_as_elim] theorem nK{P:Stmt->Prop}(h:eF e f=true)(k:∀a b c,f a b c=true->P (.Assign a b c)):P e:=by
 refine jP (zL4 h) λa b c d q=>?_;subst d;exact k _ _ _ q
@[elab_as_elim] theorem Ls{P:Stmt->Prop}(h:oU e f=true)(k:∀a c d b,f a c d b=true->P (.AugAssign a c d b)):P e:=by
 refine tW (Aq h) λa c d b g q=>?_;subst g;exact k _ _ _ _ q
@[elab_as_elim] theorem Lb{P:Stmt->Prop}(h:oK e f=true)(k:∀a c g b d,f a c g b d=true->P (.For a c g b d)):P e:=by
 refine wU2 (Az h) λa c g b d i q=>?_;subst i;exact k _ _ _ _ _ q
@[elab_as_elim] theorem Lc{P:Stmt->Prop}(h:oP e f=true)(k:∀a c d b,f a c d b=true->P (.While a c d b)):P e:=by
 refine tW (Aw h) λa c d b g q=>?_;subst g;exact k _ _ _ _ q
@[elab_as_elim] theorem Rh{P:Stmt->Prop}(h:Kc e f=true)(k:∀a c d b,f a c d b=true->P (.If a c d b)):P e:=by
 refine tW (zW0 h) λa c d b g q=>?_;subst g;exact k _ _ _ _ q
@[elab_as_elim] theorem iM{P:Stmt->Prop}(h:oG e f=true)(k:∀a b,f a b=true->P (.Expr a b)):P e:=by
 refine yX (zG2 h) λa b c q=>?_;subst c;exact k _ _ q
@[elab_as_elim] theorem jZ{α:Type}{l:List α}{f:α->Bool}{P:List α->Prop}(h:wC l f=true)(k:∀a,f a=true->P ([a])):P l:=by
 refine qY (jE h) λa b q=>?_;subst b;exact k _ q
@[elab_as_elim] theorem dU{α:Type}{l:Option α}{f:α->Bool}{P:Option α->Prop}(h:pB l f=true)(k:∀a,f a=true->P (some a)):P l:=by
 refine qY (sZ h) λa b q=>?_;subst b;exact k _ q
@[elab_as_elim] theorem Rm{P:List Comprehension->Prop}(h:Xd l f=true)(k:∀t i a,f t i a=true->P ([⟨t,i,a,0⟩])):P l:=by
 refine jP (Nm h) λt i a b q=>?_;subst b;exact k _ _ _ q
@[elab_as_elim] theorem xP{α:Type}{l:List α}{f:α->List α->Bool}{P:List α->Prop}(h:yR l f=true)(k:∀a r,f a r=true->P (a::r)):P l:=by
 refine yX (vB h) λa r b q=>?_;subst b;exact k _ _ q
@[elab_as_elim] theorem zW3{P:Expr->Prop}(h:Oq e f=true)(k:∀c kd b a,f c=true->P (.Slice none (some (.Constant c kd b)) none a)):P e:=by
 refine tW (zF1 h) λc kd b a d q=>?_;subst d;exact k _ _ _ _ q
@[elab_as_elim] theorem yW{a:List (Str×NameKind)}{kd:NameKind}{P:Expr->Prop}(h:jM a k kd e=true)(q:∀p,k<NN->a.lookup (nm k)=some kd->P (.Name (nm k) p)):P e:=by
 refine zX (kG h) λp b c d=>?_;subst b;exact q p c d
@[elab_as_elim] theorem yS{P:Expr->Prop}(h:lG e f g=true)(k:∀v s p,f v=true->g s=true->P (.Subscript v s p)):P e:=by
 refine gL (zF3 h) λv s p a b c=>?_;subst a;exact k v s p b c
@[elab_as_elim] theorem zR7{name:Str}{P:Expr->Prop}(h:Rl name e f=true)(k:∀o a b pos,gB o a b pos=true->f o a=true->P (.Call (.Attribute o name b) a [] pos)):P e:=by
 refine Ws (Lh h) λo a b pos c d g=>?_;subst c;exact k o a b pos d g
@[elab_as_elim] theorem Qr{K:Frag}{d:List (Str×NameKind)}{k:Nat}{e:Expr}{f:Expr->Bool}{P:Expr->Prop}(h:U6 K d k e (λb=>wC b f)=true)(q:∀p a pos,wK [a]=true->d.lookup (nm k)=some .globalImplicit->gR K k .none=true->f a=true->P (.Call (.Name (nm k) p) [a] [] pos)):P e:=by
 refine K9 (Io h) λp b pos c g i j l=>?_;subst c;refine qY (jE l) λa c m=>?_;subst c;exact q p a pos g i j m
@[elab_as_elim] theorem Vv(e:Expr){name:Str}{g f:Expr->Bool}{P:Expr->Prop}(h:Rl name e (λo c=>g o&&wC c f)=true)(k:∀o a b pos,gB o [a] b pos=true->g o=true->f a=true->P (.Call (.Attribute o name b) [a] [] pos)):P e:=by
 refine Ws (Lh h) λo c b pos d i j=>?_;subst d;refine qK (qO j) λl m=>qY (jE m) λa d n=>?_;subst d;exact k o a b pos i l n
@[elab_as_elim] theorem zC4(e:Expr){name:Str}{g f j:Expr->Bool}{P:Expr->Prop}(h:Rl name e (λo d=>g o&&yR d λa r=>f a&&wC r j)=true)(k:∀o a b c pos,gB o [a,b] c pos=true->g o=true->f a=true->j b=true->P (.Call (.Attribute o name c) [a,b] [] pos)):P e:=by
 refine Ws (Lh h) λo d c pos i l m=>?_;subst i;refine qK (qO m) λn p=>yX (vB p) λa r i q=>?_;subst i;refine qK (qO q) λs t=>qY (jE t) λb i u=>?_;subst i;exact k o a b c pos l n s u
@[elab_as_elim] theorem wX0(e:Expr){name:Str}{g:Expr->Bool}{P:Expr->Prop}(h:Rl name e (λo b=>g o&&b.isEmpty)=true)(k:∀o a pos,gB o [] a pos=true->g o=true->P (.Call (.Attribute o name a) [] [] pos)):P e:=by
 refine Ws (Lh h) λo b a pos c d f=>?_;subst c;refine qK (qO f) λi j=>?_;obtain rfl:=E6.mp j;exact k o a pos d i
@[elab_as_elim] theorem wW6(e:Expr){K:Frag}{i:List (Str×NameKind)}{k:Nat}{f g:Expr->Bool}{P:Expr->Prop}(h:U6 K i k e (λc=>yR c λp r=>f p&&wC r g)=true)(q:∀p a b pos,wK [a,b]=true->i.lookup (nm k)=some .globalImplicit->gR K k .none=true->f a=true->g b=true->P (.Call (.Name (nm k) p) [a,b] [] pos)):P e:=by
 refine K9 (Io h) λp c pos d j l m n=>?_;subst d;refine yX (vB n) λa r d o=>?_;subst d;refine qK (qO o) λs t=>qY (jE t) λb d u=>?_;subst d;exact q p a b pos j l m s u
@[elab_as_elim] theorem wW2(e:Expr){f:Expr->Bool}{d:List Expr->Bool}{P:Expr->Prop}(h:nA e (λb a=>vT b λ_ _=>f b&&d a)=true)(q:∀x p a pos,wK a=true->f (.Name x p)=true->d a=true->P (.Call (.Name x p) a [] pos)):P e:=by
 refine gL (Rp h) λb a pos c g i=>?_;subst c;refine yX (lW i) λx p c j=>?_;subst c;refine qK (qO j) λk l=>?_;exact q x p a pos g k l
@[elab_as_elim] theorem Om(e:Expr){op:CmpOp}{f g:Expr->Bool}{P:Expr->Prop}(h:oJ e (λl os b _=>wC os λo=>wC b λr=>(o==op)&&(qU1 o r==false)&&f l&&g r)=true)(q:∀l r p,(qU1 op r==false)=true->f l=true->g r=true->P (.Compare l [op] [r] p)):P e:=by
 refine tW (iJ h) λl os b p a c=>?_;subst a;refine qY (jE c) λo a d=>?_;subst a;refine qY (jE d) λr a i=>?_;subst a;refine tM i λj k m n=>?_;obtain rfl:=beq_iff_eq.mp j;exact q l r p k m n
@[elab_as_elim] theorem wG0{op:CmpOp}{P:Sem Value->Prop}(h:(qU1 op r==false)=true)(k:P t):P (markedBehindIn op r t):=qI3 (beq_iff_eq.mp h)▸k
@[elab_as_elim] theorem zA1{K:Frag}{d:List (Str×NameKind)}{t:Tg}{ik:Ik}{c:List (Str×NameKind)->Expr->Bool}{it:Expr->Bool}{ifs:List (Str×NameKind)->List Expr->Bool}{e:Expr}{P:Expr->Prop}(h:L7 K d t ik c it ifs e=true)
  (k:∀b target iter a scope pos,LcOk K d t ik c it ifs b target iter a scope->P (.ListComp b [⟨target,iter,a,0⟩] scope pos)):P e:=by
 obtain⟨b,target,iter,a,scope,pos,rfl,L⟩:=Oz h;exact k b target iter a scope pos L
theorem Qt:vT (.Name x p) f=f x p:=by delta vT;rfl
theorem zO7:Bx (.ListComp a b c d) f=f a b c d:=by delta Bx;rfl
theorem On{K:Frag}{C k:Nat}(h:qT0 K C k=true):k<NN:=by simp only[qT0,Bool.and_eq_true,decide_eq_true_eq] at h;exact h.2
theorem wU{α:Type}{o:Option α}{f:α->Prop}{P:Prop}(w:T9 o f)(k:∀a,o=some a->f a->P):P:=w.elim λa h=>k a h.1 h.2
theorem L8{v:Value}{a:AV}{f:Addr->Prop}{P:Prop}(i:Is v a)(w:T9 (rf a) f)(k:∀t,Is v (.ref t)->f t->P):P:=wU w λt e q=>k t (jA e▸i) q
theorem Vu{v:Value}{a:AV}{f:Int->Prop}{P:Prop}(i:Is v a)(w:T9 (it a) f)(k:∀t,Is v (.int t)->f t->P):P:=wU w λt e q=>k t (lI e▸i) q
theorem wG7{v:Value}{a:AV}{f:Nat->Prop}{P:Prop}(i:Is v a)(w:T9 (sr a) f)(k:∀t,Is v (.str t)->f t->P):P:=wU w λt e q=>k t (iP e▸i) q
theorem Rn(h:Ii op o=true):o=F5 op:=of_decide_eq_true h
@[elab_as_elim] theorem Ha{op:L5}{P:Operator->Prop}(h:Ii op o=true)(k:P (F5 op)):P o:=Rn h▸k
@[elab_as_elim] theorem Rr{P:Const->Prop}(h:M9 c i=true)(k:P (.int i)):P c:=wL2 h▸k
theorem uU{v:Value}{a:AV}{β:Type}{g:Addr->Option β}{f:Addr->β->Prop}{P:Prop}(i:Is v a)(w:T9 (rf a) λt=>T9 (g t) (f t))(k:∀t x,Is v (.ref t)->g t=some x->f t x->P):P:=L8 i w λt i w=>wU w λx e q=>k t x i e q
theorem Ld{v:Value}{a:AV}{β:Type}{g:Int->Option β}{f:β->Prop}{P:Prop}(i:Is v a)(w:T9 (it a) λt=>T9 (g t) f)(k:∀t x,Is v (.int t)->g t=some x->f x->P):P:=Vu i w λt i w=>wU w λx e q=>k t x i e q
theorem zT5{v:Value}{a:AV}{β:Type}{g:Nat->Option β}{f:Nat->β->Prop}{P:Prop}(i:Is v a)(w:T9 (sr a) λt=>T9 (g t) (f t))(k:∀t x,Is v (.str t)->g t=some x->f t x->P):P:=wG7 i w λt i w=>wU w λx e q=>k t x i e q
@[elab_as_elim] theorem pQ{P:Value->Prop}(i:Is v (.ref t))(k:P (.ref t)):P v:=i.zT▸k
theorem R9.qq(x:R9 Z n lc t H Q R)(k:∀v H',Q v H'->Q' v H'):R9 Z n lc t H Q' R:=x.mono k λ_ _ r=>r
theorem R9.vq(x:R9 Z n lc t H (VQ Q0) R)(k:∀v a H',Is v a->Q0 a H'->Q v H'):R9 Z n lc t H Q R:=x.mono (λv H' h=>h.elim λa h=>k v a H' h.1 h.2) λ_ _ r=>r
theorem R9.Qb(x:R9 Z n lc t H (VQ λa b=>a=c∧b=H0) R)(k:∀v,Is v c->Q v H0):R9 Z n lc t H Q R:=x.vq λv a d i q=>by obtain⟨rfl,rfl⟩:=q;exact k v i
theorem qF.qq(x:qF Z n L m t H Q R)(k:∀v m' H',Q v m' H'->Q' v m' H'):qF Z n L m t H Q' R:=x.mono k λ_ _ r=>r
section
variable{Z:Ctx}{n:Nat}{m:M}{H:St}{lc:Option (Addr×M)}{eV:Env}{F:Fm}{ks:List (Str×NameKind)}
theorem Os(c:gN o=true)(h:R9 Z n lc (eval o eV) H (λa b=>R9 Z n lc (qN0 a attr true) b Q qM) qM):R9 Z n lc (eval (.Attribute o attr pos) eV) H Q qM:=by
 show R9 Z n lc (qA3 o attr eV (eval o eV)>>=λa=>PySem.standAt pos.atName>>=λ_=>PySem.holding [a] (qN0 a attr true)>>=λr=>letTemporaryGo o a r>>=λ_=>pure r) H Q qM;rw[Nb c];exact R9.bind (h.mono (λa b d=>R9.jQ (R9.bind (R9.holding (d.mono (λr e q=>R9.bind (R9.letTemp (R9.pure q))) λ_ _ r=>r)))) λ_ _ r=>r)
theorem Hi{R:Value->St->Prop}{x:Str}{p pos:Pos}{a:List Expr}{Q:Value->St->Prop}(h:R9 Z n lc (eval (.Name x p) eV) H (λf b=>R9 Z n lc (zH5 pos f [] (qR1 pos (qL6 a eV)) (qS3 pos (qG1 [] eV))) b Q R) R):
  R9 Z n lc (eval (.Call (.Name x p) a [] pos) eV) H Q R:=by
 rw[arm_eval_Call_Name'];exact R9.bind h
theorem tS(O:Z.Ok)(f:zV eV F ks){k:Nat}{id:String}{p pos:Pos}{a:List Expr}{Q:Value->St->Prop}(i:ks.lookup (nm k)=some .globalImplicit)(e:gR Z.K k .none=true)(g:k<NN)(c:qS2 (nm k)=some (.builtin id))(d:wK a=true)
  (h:R9 Z n lc (qU4 (Je eV a)) H (λvs b=>R9 Z n lc (call (.builtin id) vs []) b Q qM) qM):R9 Z n lc (eval (.Call (.Name (nm k) p) a [] pos) eV) H Q qM:=
 Hi (Hf (v:=.builtin id) O f g i e c (vX d (h.mono (λvs b q=>⟨qU2.builtin,q⟩) λ_ _ r=>r)))
theorem aT(O:Z.Ok){C k:Nat}{t:Addr}{f:M}{a:AV}{y:Sem Bool}{Q:Value×List Value->St->Prop}(c:qF8 Z.K C k=true)(z:k<NN)(h:H.obj C t=some f)(x:f k=some a)(q:∀v,Is v a->Q (v,[]) H):
  R9 Z n lc (qV5 (.ref t) (nm k) y) H Q qM:=by
 intro A E Qc B s g D i F G J;refine tZ (mI i h) λd l K p1 p2 b L N p5=>?_;subst b;have j:=c;rw[Xe] at c;simp only[Bool.and_eq_true,beq_iff_eq] at c;refine qK c λb P=>?_;clear c;refine qK b λo g2=>?_;clear b;have X:=O.X.keeps i.old;refine gL (qV2 N) λS es ep T e2 e3=>?_;have I:InstAt s.heap t (qK7 C d) C (some S):=⟨L,rfl,rfl,T⟩;have e:=PySem.F.canon_object_ga;unfold qV5 specialOf;refine R8 (R8 (I.type.here ((qY6 X (qM3 o).1).here ?_)));dsimp only;refine qX (D9 (by rw[e];simp)) ?_;refine R8 (R8 (I.type.here ((qY6 X (qM3 o).2).here ?_)));refine R8 (R8 (I.type.here ((qY6 X P).here ?_)));refine R8 ?_;exact dQ (Z:=Z) (n:=n) (lc:=lc) (R:=qM) (Q:=λp u=>p=a∧u=H) (ex:=false) O j z h x ⟨rfl,rfl⟩ A E _ B s g D i F (λv U m u r V w=>by
  refine zX w λp W b Y=>?_;clear w;subst b;subst Y;exact S5 (G _ U m _ r V (q v W))) J
theorem Ho(O:Z.Ok)(q:∀l,qD H l->Q (.ref l) (H.xD tg l [])):R9 Z n lc (eval (.Dict [] [] pos) eV) H (VQ Q) qM:=by
 rw[wM7];refine R9.jQ ?_;intro A E i d s j m a p k r;refine qQ4 ?_ (by first|trivial|exact Nat.zero_le _|(unfold sizeOk;simp));have c:=a.fresh O (Nat.le_refl s.heap.objs.size);have f:yQ Z (wM d s.heap.objs.size (.td tg [])) (s.heap.push {cls:=.type "dict",data:=.dict #[]}) s.heap.objs.size (.td tg []):=zU ([]) (wV5 _ _ (B3 _ rfl) ⟨rfl,rfl,rfl⟩ rfl rfl (by simp) (by simp)) .nil (by simp);refine qK (a.new (tk:=s.toks) O (Nat.le_refl _) (λb o e=>S7 _ e) f ((a.view.fresh c).addTd (zG ..))) λg h=>?_;exact k _ _ _ _ g h (qZ _ (.ref _) (q _ (xL a.view c)))
theorem Mq(O:Z.Ok)(q:∀l,qD H l->Q (.ref l) (H.wR l [])):R9 Z n lc (eval (.Dict [] [] pos) eV) H (VQ Q) qM:=by
 rw[wM7];refine R9.jQ ?_;intro A E j d s m p a r k t;refine qQ4 ?_ (by first|trivial|exact Nat.zero_le _|(unfold sizeOk;simp));have c:=a.fresh O (Nat.le_refl s.heap.objs.size);have f:yQ Z (wM d s.heap.objs.size (.yT [])) (s.heap.push {cls:=.type "dict",data:=.dict #[]}) s.heap.objs.size (.yT []):=qZ ([]) (cM _ _ _ (B3 _ rfl) ⟨rfl,rfl,rfl⟩ rfl (λe g=>by simp at g) .nil (by simp)) .nil;refine qK (a.new (tk:=s.toks) O (Nat.le_refl _) (λb o e=>S7 _ e) f ((a.view.fresh c).addIdc (zG ..))) λh i=>?_;exact k _ _ _ _ h i (qZ _ (.ref _) (q _ (xL a.view c)))
theorem zL6:zK Is yE.toList Ki:=by
 unfold yE Ki
 repeat' first|exact .nil|refine .cons (.int _ _) ?_
theorem Rs(O:Z.Ok)(X:∀b o,Z.h₀.get? b=some o->h.get? b=some o):IsTup h 566 yE:=zU _ (X _ _ O.rest) rfl (yU 0 rfl)
theorem zB8(O:Z.Ok){R:Value->St->Prop}{b a:Expr}{o i:Value}{j:Int}{x:AV}{Q:AV->St->Prop}(g:Is o (.ref 566))(h:Is i (.int j))(f:uC Ki j=some x)(q:Q x H):
  R9 Z n lc (qZ5 b a o i) H (VQ Q) R:=by
 obtain rfl:=g.zT;refine zH h.xN λtk l=>?_;subst l;refine hY (T:="tuple") F.slot_tuple_getitem.lookup (λe s c=>(Rs O c.old).typeIs) ?_;intro A E y e s z B c p k C;have r:=Rs O c.old;refine Jv (Jd zL6 f) λv m t u w d=>?_;have p:yE.toList.length=21:=rfl;refine qH8 r ?_ ?_ (by simpa using t) (by simpa using u) (k v _ e H c (yL.refl _ _) (qZ x w q))
 ·rcases d with⟨rfl,_⟩|⟨d,_⟩<;>lia
 ·rcases d with⟨rfl,_⟩|⟨d,rfl,D⟩<;>lia
theorem Cz(O:Z.Ok)(i:Is v (.ref 566))(q:Q (.int 21) H):R9 Z n lc (call (.builtin "len") [v] []) H (VQ Q) R:=by
 obtain rfl:=i.zT;intro A E d b s e f a g k h;have c:=a.old _ _ O.rest;exact P.len_tuple (items:=yE) (n:=0) c (by decide) (k _ _ b H a.toks (yL.refl _ _) (qZ _ (.int _ _) q))
theorem zC0(O:Z.Ok){R:Value->St->Prop}{d c:Expr}{o i:Value}{j:Nat}{x:AV}{Q:AV->St->Prop}(y:Is o (.ref 567))(z:Is i (.str j))(w:zE Ka j=some x)(q:Q x H):
  R9 Z n lc (qZ5 d c o i) H (VQ Q) R:=by
 obtain rfl:=y.zT;refine qY z.pF λtk B C=>?_;subst B;have p:∀h:Heap,(∀b o,Z.h₀.get? b=some o->h.get? b=some o)->∃a,h.DictOf (SK Z.w) 567 a∧zK pK a Ka:=λh X=>by
  have D:(Str.ofString "a")=nm 1:=by kernel_rfl
  have G:(Str.ofString "b")=nm 2:=by kernel_rfl
  have I:(Str.ofString "c")=nm 3:=by kernel_rfl
  refine qZ ([(nm 1,.str (nm 2) 1064),(nm 2,.str (nm 3) 1066),(nm 3,.str (nm 1) 1068)]) (cM _ _ _ (X _ _ O.M3) ⟨rfl,rfl,rfl⟩ rfl ?_ ?_ ?_) (.cons ⟨by decide,rfl,.str _ _ (by decide)⟩ (.cons ⟨by decide,rfl,.str _ _ (by decide)⟩ (.cons ⟨by decide,rfl,.str _ _ (by decide)⟩ .nil)))
  ·intro e r;simp only[List.mem_toArray,E3,qK5,or_false] at r;rcases r with rfl|rfl|rfl
   ·exact qZ (Str.ofString "a") (qW1 O7 Z.w _ _) rfl
   ·exact qZ (Str.ofString "b") (qW1 O7 Z.w _ _) rfl
   ·exact qZ (Str.ofString "c") (qW1 O7 Z.w _ _) rfl
  ·refine qX D (qX G (qX I ?_));exact .cons (qW1 O7 Z.w _ _) rfl (.cons (qW1 O7 Z.w _ _) rfl (.cons (qW1 O7 Z.w _ _) rfl .nil))
  ·exact hU (l:=[1,2,3]) (by decide) (by decide)
 refine hY (T:="dict") F.slot_dict_getitem.lookup (λt s f=>by obtain⟨J,g,u⟩:=p _ f.old;exact g.typeIs) ?_;intro A E K t s L M f N k P;refine qY (p _ f.old) λa g u=>?_;have o:=vZ u C;rw[w] at o;cases m:qU3 a (nm j) with
 |none=>rw[m] at o;cases o
 |some v=>
  rw[m] at o;cases o with
  |some i=>exact qF1 (knd:=SK Z.w) (qW1 O7 Z.w _ _) g.mapOf m (k v _ t H f.toks (yL.refl _ _) (qZ x i q))
theorem Cw(m:Is v (.ref a))(o:Is x (.ref b))(h:H.lst t a=some vs)(I:vs.length<1000000)(p:H.lst t2 b=some [])(r:a≠b)(q:Q .none (H.qQ t a vs)):R9 Z n lc (call (.builtin "list.extend") [v,x] []) H (VQ Q) qM:=by
 obtain rfl:=m.zT;obtain rfl:=o.zT;intro A E J u s K L g w k M;refine zX (kH g h) λd f j l=>zH f λc i=>?_;clear f;refine zX (kH g p) λN f y O=>zH f λz B=>?_;clear f;cases y;have e:=j.length;have C:d.toArray++(#[]:Array Value)=d.toArray:=by simp
 refine qR2 PySem.F.slot_list_extend (qZ _ i rfl) PySem.F.entry_list_extend (PySem.F.args_list_extend_2 _ _) (AutoSeq1.list_extend_list_list_0 a d.toArray c b #[] z (by simp[qN1,O9];lia) (by rw[O9];simp;lia) (by rw[O9];simp;lia)) ⟨i,B,?_⟩;have D:yQ Z (wM u a (.lst t vs)) (s.heap.update a (Obj.mapSeq λx=>x++#[])) a (.lst t vs):=by
  refine zU d (yU (if(d.toArray++#[]).size==d.toArray.size then c else c+1) ?_) j (by lia);refine qX (D7 _ i rfl) ?_;simp only[Obj.mapSeq,C]
 refine qK (g.upd (tk:=s.toks) l rfl ((A5 ..).extBut) D (g.view.Jl l)) λF G=>?_;exact k _ _ _ _ F G (qZ _ .none q)
theorem wU6(q:Q (.int (-i)) H):R9 Z n lc (eval (.UnaryOp .USub (.Constant (.int i) kd p) pos) eV) H (VQ Q) qM:=by
 refine R9.thenV (kF (a:=.int i) (Q:=λa c=>a=.int i∧c=H) (dct rfl) ⟨rfl,rfl⟩) λa c v e d=>?_;refine qK d λb f=>?_;clear d;subst b;subst f;refine zH e.xN λt b=>?_;subst b;refine R9.jQ (R9.holding ?_);intro A E l g s m o h j k r;exact neg_int (k _ _ g _ h.toks (yL.refl _ _) (qZ _ (.int _ _) q))
noncomputable def Fp(eV:Env)(pos:Pos):List (Option Expr)->List Expr->List (Sem Value×Sem Value)
 |some k::a,e::b=>(eval k eV,do let x<-eval e eV;PySem.standAt pos;pure x)::Fp eV pos a b
 |_,_=>[]
theorem zP9:∀{c:List Nat}{a:List (Option Expr)}{b:List Expr},uB c a=true->c.length=b.length->
  (zM3 a eV).zip ((qE8 b eV).map λv=>do let x<-v;PySem.standAt pos;pure x)=(Fp eV pos a b).map λp=>(some p.1,p.2):=by
 intro c;induction c with
 |nil=>
  intro a b h e;obtain rfl:=E6.mp h;obtain rfl:=qQ7 e.symm;rfl
 |cons k c d=>
  intro a b h e;cases b with
  |nil=>exact nomatch e
  |cons x b=>
   refine gL (sW h) λkd p r f _ g=>?_;subst f;have i:=d g (Nat.succ.inj e);show(some (eval (.Constant (.str (nm k)) kd p) eV),_)::(zM3 r eV).zip ((qE8 b eV).map _)=_;exact qX i rfl
theorem Rt:∀{b:List Nat}{a:List (Option Expr)}{c:List Expr},uB b a=true->b.length=c.length->(Fp eV pos a c).length=b.length
 |[],a,c,h,e=>by
  obtain rfl:=E6.mp h;rfl
 |k::b,a,[],_,e=>nomatch e
 |k::b,a,x::c,h,e=>by
  refine gL (sW h) λkd p r d _ f=>?_;subst d;exact cgA Nat.succ (Rt f (Nat.succ.inj e))
structure Vk(p:Value×Value)(q:Nat×AV):Prop where
 lt:q.1<NN
 key:∃t,p.1=.str (nm q.1) t
 val:Is p.2 q.2
theorem We(D:Addr)(p:Value×Value)(ps:List (Value×Value)):zM4 D (p::ps)=(zQ1 D p.1 p.2>>=λ_=>zM4 D ps):=by
 unfold zM4;rw[qL0];simp only[qR3,qX7]
theorem Cx(v:zK Vk ps qs)(w:Z.h₀.get? D=none):∀{κ:Kp}{s:S8}{H:St}{l:List (Nat×AV)}{kvs:List (Str×Value)}{Q:PUnit->S8->Prop},Rep Z κ s H->κ D=none->s.heap.DictOf (SK Z.w) D kvs->zK pK kvs l->
  (∀c a,Rep Z κ c H->(∀b o,b≠D->s.heap.get? b=some o->c.heap.get? b=some o)->c.heap.DictOf (SK Z.w) D a->zK pK a (qs.foldl (λd p=>qJ9 d p.1 p.2) l)->Q PUnit.unit c)->D8 (model O7 Z.w) A (zM4 D ps) Q E s:=by
 induction v with
 |nil=>intro κ s H l kvs Q g h f i k;exact S5 (k s kvs g (λ_ _ _ e=>e) f i)
 |@cons p q ps qs x _ y=>
  intro κ s H l kvs Q g h f i k;obtain⟨R,S⟩:=p;obtain⟨j,⟨t,z⟩,B⟩:=x;have m:=z;subst m;have C:kvs.length≤sizeLine:=by
   refine tZ (id f) λ_ _ _ _ _ _ _ _ F=>?_;have:=lZ i F;have e:NN=267:=rfl;refine qX O9 ?_;lia
  rw[We];refine R8 (zS5 (knd:=SK Z.w) (qW1 O7 Z.w _ _) f (λT r u=>?_) C);refine Ts (id f) λo G I J _ K _=>qK (g.Kr (tk:=s.toks+1) h w (uS (jN o G I J K)) u.extBut) λL _=>?_;exact y L h r (uT i j B) λc a M N O P=>k c a M (λb o n e=>N b o n (u.extBut b o n e)) O P
theorem zA4(O:Z.Ok){f:List Nat}{a:List (Option Expr)}{i:List Expr}{pos:Pos}{tag:Nat}{Q:AV->St->Prop}(I:uB f a=true)(h2:f.length<15)(N:0<f.length)(F:f.length=i.length)
  (h:R9 Z n lc (qI4 (Fp eV pos a i)) H (λps G=>∃as,zK Vk ps (f.zip as)∧∀l,qD G l->Q (.ref l) (G.xV tag l (vC (f.zip as)))) qM):R9 Z n lc (eval (.Dict a i pos) eV) H (VQ Q) qM:=by
 show R9 Z n lc (PySem.standAt pos>>=λ_=>dictDisplay ((zM3 a eV).zip ((qE8 i eV).map λv=>do let x<-v;PySem.standAt pos;pure x))) H (VQ Q) qM;have j:=Rt (eV:=eV) (pos:=pos) I F;refine qX (zP9 I F) (qX (dictDisplay_pairs _ (by intro e;rw[e] at j;simp at j;exact Nat.ne_of_lt N j) (by lia)) ?_);refine R9.jQ ?_;intro A E Qc P s R S J m k kx;refine R8 (wpAny_subDict_any (by lia) ?_);refine jL (J.free O (Nat.le_refl s.heap.objs.size)) λT U K p=>qK (J.more (tk:=s.toks) (h':=s.heap.push {cls:=.type "dict",data:=.dict #[]}) (λb o e=>S7 _ e)) λV r=>?_;have W:(s.heap.push {cls:=.type "dict",data:=.dict #[]}).DictOf (SK Z.w) s.heap.objs.size []:=cM _ _ _ (B3 _ rfl) ⟨rfl,rfl,rfl⟩ rfl (λe u=>by simp at u) .nil (by simp);refine h A E _ P _ R (S.pT r) V (m.pT r) (λps X Y H2 r2 L q2=>?_) (λ_ _ _ _ _ _ q=>q.elim);refine qY q2 λas ia q=>?_;have eD:(s.heap.push {cls:=.type "dict",data:=.dict #[]}).get? s.heap.objs.size=some {cls:=.type "dict",data:=.dict #[]}:=B3 _ rfl;refine qK (L _ _ eD U) λw d=>?_;have y:X.heap.DictOf (SK Z.w) s.heap.objs.size []:=cM _ _ _ w ⟨rfl,rfl,rfl⟩ rfl (λe u=>by simp at u) .nil (by simp);refine Cx ia K r2 d y .nil λs3 B C f3 M i3=>S5 ?_;refine Ts (id M) λo D ep e1 _ e2 _=>?_;have r4:=C.adopt (c:=.sd tag (vC (f.zip as))) d K p (uS (jN o D ep e1 e2)) (qZ B M i3) ((C.view.fresh d).Es (t:=tag) (l:=vC (f.zip as)) (zG ..));refine k _ s3 _ _ r4 (λb o e kb=>?_) (qZ _ (.ref _) (q _ (xL C.view d)));have g:b≠s.heap.objs.size:=λz=>uZ (T.symm.trans (z▸e));refine qK ((r.trans L) b o e kb) λe' k'=>?_;exact⟨f3 b o g e',qX (zM g) k'⟩
theorem Ot(h:R9 Z n lc (eval l eV) H (λa d=>R9 Z n lc (eval r eV) d (λb c=>R9 Z n lc (qE2 o a b) c (VQ Q) qM) qM) qM):R9 Z n lc (eval (.BinOp l o r pos) eV) H (VQ Q) qM:=by
 rw[eval_BinOp];exact R9.bind (h.mono (λa d e=>R9.bind (R9.holding (e.mono (λb c f=>R9.jQ (R9.operate f)) λ_ _ r=>r))) λ_ _ r=>r)
theorem zO2(c:Is u (.int 10))(b:Is v (.int 9))(q:Q (.int 1000000000) H):R9 Z n lc (qE2 .Pow u v) H (VQ Q) qM:=by
 refine zH c.xN λt a=>?_;subst a;refine zH b.xN λf a=>?_;subst a;intro A E g d s h i e j k l;exact AutoIntOps.pow_4 (by decide) (by decide) (by decide) (by decide) (by decide) (k _ _ d H e.toks (yL.refl _ _) (qZ _ (.int _ _) q))
theorem Ob(i:Is v x):∀k:Nat,zK Is (C9 k [v]).flatten (C9 k x)
 |0=>.nil
 |k+1=>.cons i (Ob i k)
theorem zC6(O:Z.Ok)(i:Is u (.ref a))(m:Is v (.int j))(h:H.lst t a=some [x])(L:0≤j)(M:j≤100)(q:∀l,qD H l->Q (.ref l) (H.qQ t2 l (C9 j.toNat x))):R9 Z n lc (qE2 .Mult u v) H (VQ Q) qM:=by
 obtain rfl:=i.zT;refine zH m.xN λf g=>?_;subst g;intro A E N p s P R c S r V;refine zX (kH c h) λy g z W=>zH g λk d=>?_;clear g;obtain⟨w,rfl,B⟩:∃w,y=[w]∧Is w x:=by cases z with|cons a b=>cases b;exact qZ _ rfl a
 refine wpAny_binaryOp_repeat_ref (T:="list") (U:="int") (by decide) (qZ _ d rfl) (λC=>typeIs_int C j f) noFill_list_mul F.fills_int_mul F.slot_int_rmul repeat_list F.slot_int_index.lookup
  (qR2 F.slot_int_rmul (typeIs_int s j f) F.entry_int_rmul (F.args_int_rmul_2 _ _) (lm_int_rmul_list_any j f a [w].toArray k none #[])
   ⟨d,rfl,(qZ _ d rfl),qR2 F.slot_list_mul (qZ _ d rfl) F.entry_list_mul (F.args_list_mul_2 _ _)
    (lm_list_mul_any a [w].toArray k none #[] j f (by simp[zQ0.List.listFitsIndex];lia) (by simp;lia) (by simp[qN1,sizeLine];lia))
    ⟨d,?_⟩⟩)
 rw[listMul_foldl_if];have D:=Ob B j.toNat;have G:yQ Z (wM p s.heap.objs.size (.lst t2 (C9 j.toNat x))) (s.heap.push {cls:=.type "list",data:=.seq (C9 j.toNat [w]).flatten.toArray}) s.heap.objs.size (.lst t2 (C9 j.toNat x)):=zU _ (yU 0 (B3 _ rfl)) D (by rw[qK1];lia);have I:=c.fresh O (Nat.le_refl s.heap.objs.size);refine qK (c.new (tk:=s.toks) O (Nat.le_refl _) (λb o e=>S7 _ e) G ((c.view.fresh I).cE (zG ..))) λJ K=>?_;exact r _ _ _ _ J K (qZ _ (.ref _) (q _ (oO O c (Nat.le_refl _))))
theorem nP(g:Z.hd=none)(O:Z.Ok)(u:zV eV F ks){ik:Ik}{x:X}{iter:Expr}{f:Expr->Bool}{G:St->List AV->(St->Prop)->Prop}(h:Qk Z.K ks ik f iter=true)
  (d:∀{e:Expr}{Q:AV->St->Prop},f e=true->wE Z n F qM x m Q H->R9 Z n lc (eval e eV) H (VQ Q) qM)
  (w:wE Z n F qM x m (λv c=>eS ik v c (G c)) H):kX Z n lc (eval iter eV) H (λvs inv c=>G c vs inv):=by
 cases ik with
 |lst y=>
  refine kX.of ((d h w).mono (λv c q=>?_) λ_ _ r=>r);refine qY q λa i b=>?_;obtain⟨t,k,vs,o,q⟩:=b;obtain rfl:=jA k;exact zI6 g O i o q
 |dZ=>
  refine K9 (Io h) λp s z b A B C q=>?_;subst b;refine qY (jE q) λa b D=>?_;subst b;refine Ix (inv:=λ_=>True) (λ_ _=>Wk.dZ g) O u B C A ((d D w).mono (λv c q=>?_) λ_ _ r=>r);refine qY q λa i b=>?_;obtain⟨j,E,I,J,q⟩:=b;obtain rfl:=lI E;exact rE j i I J q
 |chars=>
  refine kX.of ((d h w).mono (λv c q=>?_) λ_ _ r=>r);refine zX q λa i b q=>?_;subst b;exact Iw g O i q
 |qk y=>
  refine kX.of ((d h w).mono (λv c q=>?_) λ_ _ r=>r);refine qY q λa i b=>?_;obtain⟨t,k,l,o,q⟩:=b;obtain rfl:=jA k;exact wG6 g O i o q
theorem zK.take{α β:Type}{S:α->β->Prop}{l:List α}{b:List β}(h:zK S l b):∀k,zK S (l.take k) (b.take k):=by
 induction h with
 |nil=>intro k;exact qX List.take_nil (qX List.take_nil .nil)
 |cons a _ c=>intro k;cases k with
  |zero=>exact .nil
  |succ k=>exact .cons a (c k)
theorem Oc(O:Z.Ok)(U:zV eV F ks){k:Nat}{p w J pos:Pos}{c:Const}{kd:Nat}{tg:Nat}{a:Addr}{m:M}{ns:List Int}{Q:AV->St->Prop}(W:k<NN)(V:ks.lookup (nm k)=some .local)(Y:gH c (.int 63)=true)(X:m k=some (.ref a))(K:lX Z a ns)
  (q:∀l,qD H l->Q (.ref l) (H.qQ tg l ((ns.take 63).map AV.int))):R9 Z n (some (eV.locals,m)) (eval (.Subscript (.Name (nm k) p) (.Slice none (some (.Constant c kd w)) none J) pos) eV) H (VQ Q) qM:=by
 rw[eval_Subscript];refine R9.bind ((Xo U W V X (Q:=λx y=>x=.ref a∧y=H) ⟨rfl,rfl⟩).mono (λo y g=>?_) λ_ _ r=>r);refine zX g λx i h z=>?_;clear g;subst h;subst z;obtain rfl:=i.zT;refine zX K λf j hi aa=>?_;clear K;intro A E Qc κ s hA hF hR B kq kx;refine R8 (O4 (wpAny_Slice (S5 ?_)));rw[evalPart_some];refine(kF (kd:=kd) (pos:=w) (eV:=eV) (a:=.int 63) (lc:=some (eV.locals,m)) (n:=n) (Q:=λx C=>x=.int 63∧C=y) (R:=qM) Y ⟨rfl,rfl⟩) A E _ κ s hA hF hR B (λu d ab C L f1 g=>S5 (R8 (qY9 ?_))) (λ_ _ _ _ _ _ q=>q.elim);refine zX g λx iu h z=>?_;clear g;subst h;subst z;refine zH iu.xN λt h=>?_;subst h;have D:d.heap.IsList a f.toArray:=by
  refine qY j λo e r=>?_;clear j;exact qZ o (L.old _ _ e) r
 show D8 _ A (qZ5 (.Name (nm k) p) (.Slice none (some (.Constant c kd w)) none J) (.ref a) (.ref d.heap.objs.size)) Qc E _;refine slice_listK (s:=d) (lo:=none) (hi:=some 63) D .none (.int 63 t) ?_ (by with_unfolding_all rfl) (by intro _;with_unfolding_all rfl) (by rw[qP3,O9];lia);have G:slicePick f.toArray none (some (63:Int)) none=(f.take 63).toArray:=by
  have:=slicePick_upto' f.toArray 63;rw[List.toList_toArray] at this;exact this
 refine qX G ?_;refine qK (L.more (tk:=d.toks) (h':=d.heap.push {cls:=.type "slice",data:=.fields #[.none,.int 63 t,.none]}) λb o e=>S7 _ e) λv f2=>?_;have es:(d.heap.push {cls:=.type "slice",data:=.fields #[.none,.int 63 t,.none]}).objs.size=d.heap.objs.size+1:=qW3 ..;refine jL (v.free O (Nat.le_refl _)) λn0 N z0 h3=>?_;have I:zK Is (f.take 63) ((ns.take 63).map AV.int):=qX List.map_take (hi.take 63);refine qK (v.new (tk:=d.toks) (h':=(d.heap.push {cls:=.type "slice",data:=.fields #[.none,.int 63 t,.none]}).push {cls:=.type "list",data:=.seq (f.take 63).toArray}) (c:=.lst tg ((ns.take 63).map AV.int)) (H':=C.qQ tg (d.heap.push {cls:=.type "slice",data:=.fields #[.none,.int 63 t,.none]}).objs.size ((ns.take 63).map AV.int)) O (Nat.le_refl _) (λb o e=>S7 _ e) (zU _ (yU 0 (B3 _ rfl)) I (by rw[S6];exact Nat.lt_of_le_of_lt (qA5 ..) (by decide))) ((v.view.fresh N).cE (zG ..))) λP S=>?_;have T:=xL v.view N;rw[es] at P S T;exact kq _ _ _ _ P ((f1.trans f2).trans S) (qZ _ (.ref _) (q _ T))
end
section
set_option maxHeartbeats 2000000
theorem Vl{a:List Expr}{b pos:Pos}{P:Prop}(h:gB o a b pos=true)(k:gN o=true->wK a=true->a.length<30->(b.endLine==pos.line)=true->P):P:=
 tM h λc d e f=>k c d (oY e) f
noncomputable abbrev K'(Z:Ctx):Frag:=Z.K
section
variable{Z:Ctx}{n:Nat}{lc:Option (Addr×M)}{H:St}{eV:Env}{o:Expr}{name:Str}{apos pos:Pos}{es:List Expr}{id:String}{Q:Value->St->Prop}
theorem Rb(g:gB o es apos pos=true)
  (h:R9 Z n lc (eval o eV) H (λa b=>(∀c(e:Value×List Value->St->Prop),e (.builtin id,[a]) b->R9 Z n lc (qV5 a name c) b e qM)∧R9 Z n lc (qU4 (Je eV es)) b (λvs d=>R9 Z n lc (call (.builtin id) (a::vs) []) d Q qM) qM) qM):
  R9 Z n lc (eval (.Call (.Attribute o name apos) es [] pos) eV) H Q qM:=
 Vl g λi f j k=>tP i f j k (h.qq λa b q c=>q.1 c _ (vX f (q.2.qq λvs d l=>⟨qU2.builtin,l⟩)))
theorem tT{tg:Nat}{G:Addr->List AV->St->Prop}(g:gB o es apos pos=true)(c:Slot "list" name id)(d:wY4 (.builtin id)=pure (.type "method_descriptor"))
  (h:R9 Z n lc (eval o eV) H (VQ λa b=>T9 (rf a) λt=>T9 (b.lst tg t) λvs=>G t vs b) qM)
  (k:∀t vs b,b.lst tg t=some vs->G t vs b->R9 Z n lc (qU4 (Je eV es)) b (λus f=>R9 Z n lc (call (.builtin id) (.ref t::us) []) f Q qM) qM):
  R9 Z n lc (eval (.Call (.Attribute o name apos) es [] pos) eV) H Q qM:=
 Rb g (h.vq λv a b i q=>uU i q λt vs i e q=>pQ i ⟨λl m j=>aN c d e j,k t vs b e q⟩)
theorem Vp(O:Z.Ok){vs:List Value}{as:List AV}{Q:AV->St->Prop}(a:zK Is vs as)(h:qB Z n f as H Q qM):qU2 Z H (.ref f)∧R9 Z n lc (call (.ref f) vs []) H (VQ Q) qM:=
 ⟨h.1.elim (qU2.K O) λh=>h.elim λ_ h=>h.elim λ_ b=>qU2.fn b,(h.2 vs a).N9⟩
end
section
variable{Z:Ctx}{n:Nat}{F:Fm}
def xC(Z:Ctx)(n:Nat)(F:Fm)(x:X):Prop:=∀{ks:List (Str×NameKind)}{e:Expr}{eV:Env}{m:M}{H:St}{Q:AV->St->Prop},yJ (K' Z) x ks e=true->zV eV F ks->wE Z n F qM x m Q H->R9 Z n (some (eV.locals,m)) (eval e eV) H (VQ Q) qM
def Vg(Z:Ctx)(n:Nat)(F:Fm)(a:Xs):Prop:=∀{ks:List (Str×NameKind)}{es:List Expr}{eV:Env}{m:M}{H:St}{Q:List AV->St->Prop},gE (K' Z) a ks es=true->zV eV F ks->wEs Z n F qM a m Q H->
  R9 Z n (some (eV.locals,m)) (qU4 (Je eV es)) H (λb c=>∃as,zK Is b as∧Q as c) qM
def tB(Z:Ctx)(n:Nat)(F:Fm)(a:Xs):Prop:=∀{ks:List (Str×NameKind)}{kk:List Nat}{keys:List (Option Expr)}{es:List Expr}{eV:Env}{m:M}{H:St}{Q:List AV->St->Prop}{pos:Pos},uB kk keys=true->gE (K' Z) a ks es=true->kk.length=es.length->zV eV F ks->wEs Z n F qM a m Q H->
  R9 Z n (some (eV.locals,m)) (qI4 (Fp eV pos keys es)) H (λb c=>∃as,zK Vk b (kk.zip as)∧Q as c) qM
def Le(Z:Ctx)(n:Nat)(F:Fm)(a:Xs):Prop:=∀{ks:List (Str×NameKind)}{es:List Expr}{eV:Env}{m:M}{H:St}{Q:AV->St->Prop}{pos:Pos},gE (K' Z) a ks es=true->zV eV F ks->wW8 Z n F qM a m Q H->
  R9 Z n (some (eV.locals,m)) (qB3 pos .And (qE8 es eV)) H (VQ Q) qM
def Od(Z:Ctx)(n:Nat)(F:Fm)(a:Xs):Prop:=∀{ks:List (Str×NameKind)}{es:List Expr}{eV:Env}{m:M}{H:St}{Q:AV->St->Prop}{pos:Pos},gE (K' Z) a ks es=true->zV eV F ks->wOr Z n F qM a m Q H->
  R9 Z n (some (eV.locals,m)) (qB3 pos .Or (qE8 es eV)) H (VQ Q) qM
def Oe(Z:Ctx)(n:Nat)(F:Fm)(t:Tt):Prop:=∀{ks:List (Str×NameKind)}{e:Expr}{eV:Env}{m:M}{H:St}{Q:Bool->St->Prop},Yy (K' Z) t ks e=true->zV eV F ks->wT Z n F qM t m Q H->
  R9 Z n (some (eV.locals,m)) (PySem.isTrue e eV (eval e eV)) H Q qM
def sF(Z:Ctx)(n:Nat)(F:Fm)(w:dW->M->(Bool->St->Prop)->St->Prop)(b:List Expr->Env->Sem Bool)(ts:dW):Prop:=∀{ks:List (Str×NameKind)}{es:List Expr}{eV:Env}{m:M}{H:St}{Q:Bool->St->Prop},Lm (K' Z) ts ks es=true->zV eV F ks->w ts m Q H->
  R9 Z n (some (eV.locals,m)) (b es eV) H Q qM
theorem Oa:xC Z n F (.R3 a):=λb d w=>nU b λc kd p h=>kF h w
theorem zA0:xC Z n F (.N9 k):=λb c w=>yW b λp d e=>wU w λa f w=>Xo c d e f w
theorem zT0:xC Z n F (.qG k):=by
 intro f e s m H Q g i w;have h:∃p,e=.Name (nm k) p∧k<NN∧(f.lookup (nm k)=some .cell∨f.lookup (nm k)=some .free):=
  ((Bool.or_eq_true ..).mp g).elim (λh=>yW h λp b d=>zU p rfl b (.inl d)) λh=>yW h λp b d=>zU p rfl b (.inr d)
 refine zX h λp j b d=>?_;clear h;subst j;exact wU w λc l w=>wU w λo q w=>wU w λa r w=>Av i b d l (r▸q) w
theorem zY1(O:Z.Ok):xC Z n F (.R5 k a):=λb c w=>xJ b λd e=>yW d λp f g=>sK O c f g e w
theorem zV2(O:Z.Ok)(I:xC Z n F e):xC Z n F (.R4 C e k):=by
 intro y z A m H Q c g w;refine tN c λo d h c=>Qp c λj l p r s=>Lr p (Os l ((I j g w).vq λv a B i q=>uU i q λt f i u q=>wU q λb x q=>pQ i ?_));exact dQ O s (oY r) u x q
theorem zL7(O:Z.Ok)(I:xC Z n F e)(J:xC Z n F i):xC Z n F (.wZ tg e i):=λg f w=>yS g λv s p h k=>pH ((I h f w).vq λv a o c q=>(J k f q).vq λu b r d q=>
 uU c q λt y c l q=>Ld d q λj x d m q=>An O c d l m q)
theorem zP6(O:Z.Ok)(I:xC Z n F e)(J:xC Z n F i):xC Z n F (.xS e i):=λg f w=>yS g λv s p h k=>pH ((I h f w).vq λv a o c q=>(J k f q).vq λu b r d q=>
 uU c q λt y c l q=>Ld d q λj x d m q=>zC8 O c d l m q)
theorem zP5(O:Z.Ok)(J:xC Z n F i):xC Z n F (.Bv i):=by
 intro r t y m H Q d e w;refine yS d λv s p f g=>?_;refine yX (Nn f) λkd z h _=>?_;subst h;exact pH (R9.Qb (kF (a:=.str 6) (by kernel_rfl) ⟨rfl,rfl⟩) λv k=>(J g e w).vq λu b A c q=>Ld c q λj x c l o=>wW1 O k c l o)
theorem zG4(O:Z.Ok)(I:xC Z n F e)(J:xC Z n F i):xC Z n F (.qA tg e i):=λg f w=>yS g λv s p h k=>pH ((I h f w).vq λv a o c q=>(J k f q).vq λu b r d q=>
 uU c q λt y c l q=>zT5 d q λj x d m q=>Ar O c d l m q)
theorem zK1(O:Z.Ok)(I:xC Z n F e)(J:xC Z n F i):xC Z n F (.subQ tg e i):=λg f w=>yS g λv s p h k=>pH ((I h f w).vq λv a r c q=>(J k f q).vq λu b y d q=>
 uU c q λt z c l q=>uU d q λA j d m q=>wU q λx o q=>zE7 O c d l m o q)
theorem zX0(O:Z.Ok)(I:xC Z n F e)(J:xC Z n F i):xC Z n F (.nE e i):=λg f w=>yS g λv s p h k=>pH ((I h f w).vq λv a o c q=>(J k f q).vq λu b r d q=>
 uU c q λt y c l q=>Ld d q λj x d m q=>wQ3 O c d l m q)
theorem wZ2(I:xC Z n F a)(J:xC Z n F b):xC Z n F (.bin op a b):=λc f w=>iH c λl o r p c=>vG c λh i j=>Ha h (zM9 ((I i f w).vq λv a m d q=>(J j f q).vq λu b s e q=>
 Vu d q λx d q=>Ld (g:=sV op x) e q λy z e k q=>Ni d e k q))
theorem zD1(O:Z.Ok)(I:xC Z n F a)(J:xC Z n F b):xC Z n F (.R6 op a b):=λ{o e s m H Q} d c w=>Om e d λl r p f g h=>At (.inr trivial) ((I g c w).vq λv a t i q=>wG0 f ((J h c q).vq λu b x j q=>wU q λr k q=>Am O i j k q))
theorem zS8(I:xC Z n F e):xC Z n F (.not e):=λb c w=>Vj b λo x p b=>xJ b λd f=>rX d (wH3 (I f c w) λa g q=>q)
theorem wZ9(I:Le Z n F es):xC Z n F (.and es):=λa b w=>pE a λo e p a=>xJ a λc d=>rX c (I d b w)
theorem wU1(I:Od Z n F es):xC Z n F (.or es):=λa b w=>pE a λo e p a=>xJ a λc d=>rX c (I d b w)
theorem zA2(T:Oe Z n F t)(I:xC Z n F a)(J:xC Z n F b):xC Z n F (.ite t a b):=by
 intro r s h m H Q i j w;refine zK7 i λe g d k i=>vG i λl o p=>?_;refine R9.bind (t:=PySem.isTrue e h (eval e h)) (f:=λc=>if c=true then eval g h else eval d h) ((T l j w).qq λc u q=>?_);cases c with
 |true=>exact I o j q
 |false=>exact J p j q
theorem zX1(O:Z.Ok)(I:Vg Z n F es):xC Z n F (.list tg es):=λa c w=>Oh a λb p a=>xJ a λd e=>wQ4 d ((I e c w).qq λf g h=>h.elim λi h=>Bm O h.1 (Nat.lt_trans h.2.1 (by decide)) h.2.2)
theorem zI5(O:Z.Ok)(I:Vg Z n F es):xC Z n F (.tup es):=λa c w=>Rf a λb kd p a=>xJ a λd e=>zV8 d ((I e c w).qq λf g h=>h.elim λi h=>Hu O h.1 (Nat.lt_trans h.2.1 (by decide)) h.2.2)
theorem zW5(O:Z.Ok)(I:tB Z n F vs):xC Z n F (.dict tg kk vs):=λb f w=>Qn b λc a p b=>Qp b λd g h i e=>zA4 O d (oY g) (oY h) (Nat.eq_of_beq_eq_true e) (I d i (Nat.eq_of_beq_eq_true e) f w)
theorem Oi(O:Z.Ok):xC Z n F (.oH tg):=λb f w=>Qn b λc a p b=>xJ b λd e=>jD d (jD e (Ho O w))
theorem Oo(O:Z.Ok):xC Z n F .oM:=λb f w=>Qn b λc a p b=>xJ b λd e=>jD d (jD e (Mq O w))
theorem zY4(O:Z.Ok)(I:xC Z n F f)(J:Vg Z n F es):xC Z n F (.call f es):=λ{o e r m H Q} d b w=>wW2 e d λx p c g j k l=>Hi ((I k b w).vq λv a s i q=>vX j ((J l b q).qq λu y h=>h.elim λz h=>L8 i h.2 λt i q=>pQ i (Vp O h.1 q)))
theorem q9(O:Z.Ok){C k:Nat}{f:Addr}{e:X}{d:Xs}(I:xC Z n F e)(J:Vg Z n F d):xC Z n F (.oN C e k f d):=by
 intro M N P m H Q b j w;refine zR7 b λo l p u x b=>Ln b λy z A B D E=>Vl x λG r K L=>tP G r K L ((I y j w).vq λv a R s q S=>uU s q λt g i c q=>pQ i ?_);exact aR O (qT1 _ _ _▸A) (qG6 ..▸beq_iff_eq.mp B) D (oY z) c q.1 (vX r ((J E j q.2).qq λT U h=>h.elim λV h=>Vp O (.cons (i.zT▸s) h.1) h.2))
theorem z5(O:Z.Ok){C k:Nat}{e:X}{l:Xs}(I:xC Z n F e)(J:Vg Z n F l):xC Z n F (.oR C e k l):=by
 intro M N P m H Q b p w;refine zR7 b λo r s y z b=>tM b λA B D E=>Vl z λG x K L=>tP G x K L ((I A p w).vq λv a R i q S=>uU i q λt g i c q=>wU q λT d q=>pQ i ?_);exact aT O D (oY B) c d λu j=>L8 j q λf j q=>pQ j (vX x ((J E p q).qq λU V h=>h.elim λW h=>Vp O h.1 h.2))
theorem zW9(O:Z.Ok)(I:xC Z n F e):xC Z n F (.uX tg e):=λc b w=>Qr c λp a d f g h j=>tS (id:="len") O b g h (by decide) (by kernel_rfl) f (wQ ((I j b w).vq λv a l i q=>wG (uU i q λt m i k q=>zT6 i k q)))
theorem zK0(g:Z.hd=none)(O:Z.Ok)(I:xC Z n F a)(J:xC Z n F b):xC Z n F (.max2 a b):=λ{s e t m H Q} h c w=>wW6 e h λp x y i j k l o r=>
 tS (id:="max") O c k l (by decide) (by kernel_rfl) j (wQ ((I o c w).vq λv a z d q=>wQ ((J r c q).vq λu b A f q=>wG (Vu d q λx d q=>Vu f q λy f q=>zB7 g O d f q))))
theorem zV7(d:Z.hd=none)(O:Z.Ok)(I:xC Z n F e):xC Z n F (.Jn tg e):=λf c w=>Qr f λp a g h j k l=>tS (id:="min") O c j k (by decide) (by kernel_rfl) h (wQ ((I l c w).vq λv a r i q=>wG (uU i q λt s i m q=>wU q λis b q=>wU q λx o q=>zC5 d i m b o q)))
theorem z6(c:Z.hd=none)(O:Z.Ok)(I:xC Z n F e):xC Z n F (.sortI tg e):=λd b w=>Qr d λp a f g h j k=>tS (id:="sorted") O b h j (by decide) (by kernel_rfl) g (wQ ((I k b w).vq λv a m i q=>wG (uU i q λt o i l q=>zX9 c O i l q.1 q.2)))
theorem z7(i:Z.hd=none)(O:Z.Ok){tg:Nat}{ik:Ik}{a it:X}{ifs:dW}(I:xC Z n F it)(J:sF Z n F (xT Z n F qM) (λl eV=>xY eV l true) ifs)(E:xC Z n F a):xC Z n F (.zO tg a t ik it ifs):=λm b w=>zA1 m λj g iter k h p L=>
 zL0 (tag:=tg) i O b L.S (IT:=λc d e=>xT Z n F qM ifs c d e) (El:=λc d e=>wE Z n F qM a c d e) L.p L.t (λC c d e f=>J L.i (vD b L.S C) f) (λC c d e f=>E L.e (vD b L.S C) f) (nP (x:=it) (ik:=ik) i O b L.it (λo f=>I o b f) w)
theorem z8(h:Z.hd=none)(O:Z.Ok){tg t:Nat}{v it:X}(I:xC Z n F it)(E:xC Z n F v):xC Z n F (.eH tg t v it):=by
 intro M N P m H Q b c w;refine Of b λk R T e q b=>Rm b λd iter i b=>Qg b λr s u z A B D=>jD r (yW A λU G J=>?_);have S:=Ll s;exact zP0 (tag:=tg) h O c S (El:=λf j l=>T9 (f t) λp=>T9 (sr p) λk=>wE Z n F qM v f (λy K=>j (k,y) K) l) u z (λC f j l a=>wU a λp g a=>wU a λk L a=>⟨k,Xo (vD c S C) G J g ⟨iP L,E B (vD c S C) a⟩⟩) (nP (x:=it) (ik:=.chars) h O c D (λo a=>I o c a) w)
theorem Cy(I:xC Z n F e)(J:xC Z n F x):xC Z n F (.append tg e x):=λ{r f s m H Q} g c w=>Vv f g λo a d h i j k=>
 tT (id:="list.append") i PySem.F.slot_list_append PySem.F.type_list_append (I j c w) λt v y z q=>wQ ((J k c q).vq λu b A l q=>wG (wU q λB p q=>Ab (.ref t) l p q.1 q.2))
theorem zB1(I:xC Z n F e):xC Z n F (.pop tg e):=λ{l b p m H Q} c d w=>wX0 b c λo a f g h=>
 tT (id:="list.pop") g PySem.F.slot_list_pop PySem.F.type_list_pop (I h d w) λt r s i q=>wG (wU q.2 λy j k=>wP0 (.ref t) i q.1 j k)
theorem zJ1(I:xC Z n F e):xC Z n F (.Fi tg e):=λ{z g d m H Q} h i w=>Vv g h λo a f j k l b=>
 tT (id:="list.pop") k PySem.F.slot_list_pop PySem.F.type_list_pop (I l i w) λt A p r q=>wQ (nU (P:=λa=>R9 Z n (some (d.locals,m)) (eval a d) p _ qM) b λc kd B b=>Rr b (R9.Qb (kF (a:=.int 0) rfl ⟨rfl,rfl⟩) λu s=>wG (wU q.2 λy v x=>wZ0 (.ref t) s r q.1 v x)))
theorem Cj(I:xC Z n F e)(J:xC Z n F x):xC Z n F (.remove tg e x):=λ{z g A m H Q} h d w=>Vv g h λo a f i k l p=>
 tT (id:="list.remove") k PySem.F.slot_list_remove PySem.F.type_list_remove (I l d w) λt B C D q=>wQ ((J p d q).vq λu b E c q=>wG (wU q λG r q=>uU c q λK L c s q=>wU q.2 λj v y=>Ih (.ref t) c r q.1 s v y))
theorem zU3(r:Z.hd=none)(I:xC Z n F e)(J:xC Z n F k)(E:xC Z n F d):xC Z n F (.Kd tg e k d):=λ{N s O m H Q} y f w=>zC4 s y λo a b p z A B C D=>
 Rb (id:="dict.get") A ((I B f w).vq λv a P i q=>uU i q λt l i G q=>pQ i ⟨λR S K=>oA PySem.F.slot_dict_get PySem.F.type_dict_get G K,wQ ((J C f q).vq λu b T g q=>wQ ((E D f q).vq λx c U L q=>wG (wU q λV h q=>uU g q λW j g M q=>wQ6 r (.ref t) g L h M q)))⟩)
theorem Cv(O:Z.Ok):xC Z n F (.dX tg):=λb d w=>yS b λv s p e f=>yW e λj g h=>zW3 f λc kd k l i=>w.elim λa w=>w.elim λm w=>Oc O d g h i w.1 w.2.1 w.2.2
theorem Cu(I:xC Z n F e)(J:xC Z n F x):xC Z n F (.extend tg tg2 e x):=λ{s g v m H Q} h d w=>Vv g h λo a f i j k l=>
 tT (id:="list.extend") j PySem.F.slot_list_extend PySem.F.type_list_extend (I k d w) λt y z A q=>wQ ((J l d q).vq λu b B c q=>wG (wU q λC p q=>uU c q λD E c r q=>Cw (.ref t) c p q.2.2.1 (q.1▸r) q.2.1 q.2.2.2))
theorem z9(O:Z.Ok)(J:xC Z n F i):xC Z n F (.rQ i):=λg f w=>yS g λv s p c h=>xJ c λc k=>yW c λq _ l=>
 pH (R9.Qb (sK (a:=.ref 567) O f (by decide) l k ⟨rfl,rfl⟩) λv m=>(J h f w).vq λu b r d e=>zT5 d e λj x d o e=>zC0 O m d o e)
theorem w5(O:Z.Ok)(J:xC Z n F i):xC Z n F (.eR i):=λg f w=>yS g λv s p c h=>xJ c λc k=>yW c λq _ l=>
 pH (R9.Qb (sK (a:=.ref 566) O f (by decide) l k ⟨rfl,rfl⟩) λv m=>(J h f w).vq λu b r d e=>Ld d e λj x d o e=>zB8 O m d o e)
theorem wX6:xC Z n F (.neg j):=λa f w=>Vj a λo x p a=>xJ a λb d=>rX b (nU d λc kd g e=>Rr e (wU6 w))
theorem zL3(O:Z.Ok)(I:xC Z n F e)(J:xC Z n F i):xC Z n F (.mulL tg tg2 e i):=λc h w=>iH c λl o r p c=>vG c λk m s=>rX k (Ot ((I m h w).vq λv a y d q=>(J s h q).vq λu b z f q=>
 L8 d q λt d q=>q.elim λx q=>Vu f q.2 λj f g=>zC6 O d f q.1 g.1 g.2.1 g.2.2))
theorem zJ4:xC Z n F .Bu:=λb m w=>iH b λl o r p b=>vG b λd e f=>rX d (nU e λc kd g h=>Rr h (nU f λc kd g i=>Rr i (
 Ot (R9.Qb (kF (a:=.int 10) rfl ⟨rfl,rfl⟩) λv j=>R9.Qb (kF (a:=.int 9) rfl ⟨rfl,rfl⟩) λu k=>zO2 j k w))))
theorem Ck(O:Z.Ok):xC Z n F .gG:=λ{l e o m H Q} d c w=>Qr d λp a f q g h b=>xJ b λb i=>yW b λr _ j=>
 tS (id:="len") O c g h (by decide) (by kernel_rfl) rfl (wQ (R9.Qb (sK (a:=.ref 566) O c (by decide) j i ⟨rfl,rfl⟩) λv k=>wG (Cz O k w)))
theorem zA9:Vg Z n F .nil:=λa b w=>jD a (wG (qZ ([]) .nil w))
theorem zV4(I:xC Z n F x)(J:Vg Z n F r):Vg Z n F (.cons x r):=λb c w=>xP b λe j b=>xJ b λd f=>wQ ((I d c w).vq λv a k i q=>(J f c q).qq λl m h=>h.elim λg h=>qZ (a::g) (.cons i h.1) h.2)
theorem zC3:tB Z n F .nil:=by
 intro i j b k d m H Q c f g h l w;obtain rfl:=E6.mp g;have e:Fp d c b []=[]:=by cases b<;>first|rfl|(rename_i a _;cases a<;>rfl)
 refine qX e ?_;obtain rfl:=qQ7 h;exact R9.pure (qZ ([]) .nil w)
theorem zH1(I:xC Z n F x)(J:tB Z n F r):tB Z n F (.cons x r):=by
 intro X j b d g m H Q c u y l D w;refine xP (P:=λd=>j.length=d.length->R9 Z n (some (g.locals,m)) (qI4 (Fp g c b d)) H (λE o=>∃s,zK Vk E (j.zip s)∧Q s o) qM) y (λe d y=>xJ y λK L l=>?_) l;cases j with
 |nil=>exact nomatch l
 |cons k j=>
  refine gL (sW u) λkd M b N O h=>?_;subst N;refine R9.bind (t:=eval (.Constant (.str (nm k)) kd M) g) (f:=λi=>PySem.holding [i] (do let x<-eval e g;PySem.standAt c;pure x)>>=λz=>PySem.holding [i,z] (qI4 (Fp g c b d))>>=λrest=>pure ((i,z)::rest))
   ((kF (a:=.str k) (Q:=λG p=>G=.str k∧wE Z n F qM x m (λv o=>wEs Z n F qM r m (λR p=>Q (v::R) p) o) p) (Hz O) ⟨rfl,w⟩).vq λi G o A q=>?_)
  refine R9.bind (R9.holding (R9.bind ((I K D q.2).vq λz a p S T=>R9.jQ (R9.pure (R9.bind (R9.holding ((J h L (Nat.succ.inj l) D T).qq λE Y U=>qY U λs B V=>R9.pure ?_)))))));refine qY ((q.1▸A:Is i (.str k)).pF) λt W C=>?_;exact qZ (a::s) (.cons ⟨C,yU t W,S⟩ B) V
theorem zT9(I:xC Z n F x):Le Z n F (.cons x .nil):=λa b w=>xP a λe f a=>xJ a λc d=>jD d (I c b w)
theorem zF9(I:xC Z n F x)(J:Le Z n F (.cons y r)):Le Z n F (.cons x (.cons y r)):=by
 intro o d p m H Q h c f w;refine xP c λe d c=>xJ c λj g=>?_;refine yX (vB g) λs d k t=>?_;subst k;refine Ad ((I j f w).vq λv a u i q=>wU q λb l q=>lV i l ?_);cases b with
 |true=>exact J g f q
 |false=>exact⟨a,i,q⟩
theorem wQ0(I:xC Z n F x):Od Z n F (.cons x .nil):=λa b w=>xP a λe f a=>xJ a λc d=>jD d (I c b w)
theorem zL9(I:xC Z n F x)(J:Od Z n F (.cons y r)):Od Z n F (.cons x (.cons y r)):=by
 intro o d p m H Q h c f w;refine xP c λe d c=>xJ c λj g=>?_;refine yX (vB g) λs d k t=>?_;subst k;refine wN9 ((I j f w).vq λv a u i q=>wU q λb l q=>lV i l ?_);cases b with
 |false=>exact J g f q
 |true=>exact⟨a,i,q⟩
theorem zA3(I:Oe Z n F t):Oe Z n F (.not t):=λa b w=>Vj a λo x p a=>xJ a λc d=>rX c (wH2 (I d b w))
theorem wW0(I:sF Z n F (xT Z n F qM) (qJ2 .And) ts):Oe Z n F (.and ts):=λa b w=>pE a λo e p a=>xJ a λc d=>rX c (wJ6 ..▸I d b w)
theorem wU0(I:sF Z n F (oB Z n F qM) (qJ2 .Or) ts):Oe Z n F (.or ts):=λa b w=>pE a λo e p a=>xJ a λc d=>rX c (wJ6 ..▸I d b w)
theorem zC7(I:xC Z n F x):Oe Z n F (.lst tg x):=λb c w=>xJ b λd e=>Ac d ((I e c w).vq λv a g i q=>uU i q λt h i f q=>Ji i f q)
theorem wZ6(I:xC Z n F x):Oe Z n F (.val x):=λc d w=>xJ c λe f=>Ac e ((I f d w).vq λv a h i q=>wU q λb g q=>lV i g q)
theorem zD0:sF Z n F (xT Z n F qM) (qJ2 .And) .nil:=λa b w=>jD a (R9.pure w)
theorem zK3(I:Oe Z n F t)(J:sF Z n F (xT Z n F qM) (qJ2 .And) r):sF Z n F (xT Z n F qM) (qJ2 .And) (.cons t r):=by
 intro h d i m H Q a c w;refine xP a λe d a=>xJ a λf g=>Hv ((I f c w).qq λb j q=>?_);cases b with
 |true=>exact J g c q
 |false=>exact q
theorem zD7:sF Z n F (oB Z n F qM) (qJ2 .Or) .nil:=λa b w=>jD a (R9.pure w)
theorem zU9(I:Oe Z n F t)(J:sF Z n F (oB Z n F qM) (qJ2 .Or) r):sF Z n F (oB Z n F qM) (qJ2 .Or) (.cons t r):=by
 intro h d i m H Q a c w;refine xP a λe d a=>xJ a λf g=>Bh ((I f c w).qq λb j q=>?_);cases b with
 |false=>exact J g c q
 |true=>exact q
theorem wX1:sF Z n F (xT Z n F qM) (λa eV=>xY eV a true) .nil:=λb c w=>jD b (nV w)
theorem zG1(I:Oe Z n F t)(J:sF Z n F (xT Z n F qM) (λa eV=>xY eV a true) r):sF Z n F (xT Z n F qM) (λa eV=>xY eV a true) (.cons t r):=by
 intro h a eV m H Q c d w;refine xP c λe a c=>xJ c λf g=>Qw ((I f d w).qq λb i q=>?_);cases b with
 |true=>exact J g d q
 |false=>exact q
variable(hh:Z.hd=none)(O:Z.Ok)
include hh O
mutual
theorem yH:∀(x:X),xC Z n F x
 |.bad=>λ_ _ w=>w.elim
 |.R3 a=>Oa
 |.N9 k=>zA0
 |.qG k=>zT0
 |.R5 k a=>zY1 O
 |.R4 C e k=>zV2 O (yH e)
 |.wZ tg e i=>zL7 O (yH e) (yH i)
 |.xS e i=>zP6 O (yH e) (yH i)
 |.Bv i=>zP5 O (yH i)
 |.qA tg e i=>zG4 O (yH e) (yH i)
 |.subQ tg e i=>zK1 O (yH e) (yH i)
 |.nE e i=>zX0 O (yH e) (yH i)
 |.bin op a b=>wZ2 (yH a) (yH b)
 |.R6 op a b=>zD1 O (yH a) (yH b)
 |.not e=>zS8 (yH e)
 |.and c=>wZ9 (zR1 c)
 |.or c=>wU1 (wH1 c)
 |.ite t a b=>zA2 (L9 t) (yH a) (yH b)
 |.list tg c=>zX1 O (La c)
 |.tup c=>zI5 O (La c)
 |.dict tg p m=>zW5 O (Rc m)
 |.oH tg=>Oi O
 |.oM=>Oo O
 |.call f c=>zY4 O (yH f) (La c)
 |.oN C e k f c=>q9 O (yH e) (La c)
 |.oR C e k c=>z5 O (yH e) (La c)
 |.uX tg e=>zW9 O (yH e)
 |.max2 a b=>zK0 hh O (yH a) (yH b)
 |.Jn tg e=>zV7 hh O (yH e)
 |.sortI tg e=>z6 hh O (yH e)
 |.zO tg g t q it h=>z7 hh O (yH it) (x3 h) (yH g)
 |.eH tg t v it=>z8 hh O (yH it) (yH v)
 |.append tg e x=>Cy (yH e) (yH x)
 |.pop tg e=>zB1 (yH e)
 |.Fi tg e=>zJ1 (yH e)
 |.remove tg e x=>Cj (yH e) (yH x)
 |.Kd tg e k d=>zU3 hh (yH e) (yH k) (yH d)
 |.dX tg=>Cv O
 |.extend tg l e x=>Cu (yH e) (yH x)
 |.rQ i=>z9 O (yH i)
 |.eR i=>w5 O (yH i)
 |.neg j=>wX6
 |.sX tg t v it=>λo _ _=>nomatch o
 |.mulL tg l e i=>zL3 O (yH e) (yH i)
 |.Bu=>zJ4
 |.gG=>Ck O
theorem La:∀(a:Xs),Vg Z n F a
 |.nil=>zA9
 |.cons x r=>zV4 (yH x) (La r)
theorem Rc:∀(a:Xs),tB Z n F a
 |.nil=>zC3
 |.cons x r=>zH1 (yH x) (Rc r)
theorem zR1:∀(a:Xs),Le Z n F a
 |.nil=>λ_ _ w=>w.elim
 |.cons x .nil=>zT9 (yH x)
 |.cons x (.cons y r)=>zF9 (yH x) (zR1 (.cons y r))
theorem wH1:∀(a:Xs),Od Z n F a
 |.nil=>λ_ _ w=>w.elim
 |.cons x .nil=>wQ0 (yH x)
 |.cons x (.cons y r)=>zL9 (yH x) (wH1 (.cons y r))
theorem L9:∀(t:Tt),Oe Z n F t
 |.not t=>zA3 (L9 t)
 |.and ts=>wW0 (x4 ts)
 |.or ts=>wU0 (zS2 ts)
 |.lst tg x=>zC7 (yH x)
 |.val x=>wZ6 (yH x)
theorem x4:∀(ts:dW),sF Z n F (xT Z n F qM) (qJ2 .And) ts
 |.nil=>zD0
 |.cons t r=>zK3 (L9 t) (x4 r)
theorem zS2:∀(ts:dW),sF Z n F (oB Z n F qM) (qJ2 .Or) ts
 |.nil=>zD7
 |.cons t r=>zU9 (L9 t) (zS2 r)
theorem x3:∀(ts:dW),sF Z n F (xT Z n F qM) (λa eV=>xY eV a true) ts
 |.nil=>wX1
 |.cons t r=>zG1 (L9 t) (x3 r)
end
end
end
section
set_option maxHeartbeats 2000000
section
variable{Z:Ctx}{n:Nat}{F:Fm}(hh:Z.hd=none)(O:Z.Ok){ks:List (Str×NameKind)}{eV:Env}(EO:zV eV F ks)
include hh O EO
theorem wP6(d:zD8 (K' Z) ks t tg=true)(r:Is v a)(w:L6 Z n F qM t a m Q H):qF Z n eV.locals m (qY4 tg eV v) H (λ_ m' H'=>Q m' H') qM:=
 match t,d,w with
 |.N9 k,d,w=>yW d λp B D=>kW (sL EO B D r w)
 |.qG k,d,w=>yW d λp B D=>wU w λc K w=>wU w λo L w=>kW (R9.toS (pD EO B D K L r w))
 |.R4 C e k,d,w=>tN d λo I p d=>vG d λx y M=>Lr y (Iz ((yH hh O e x EO w).vq λu b A i q=>uU i q λt f i N q=>pQ i (Xa O M N r q)))
 |.wZ tag e i,d,w=>yS d λo s p x y=>No ((yH hh O e x EO w).vq λu b A g q=>(yH hh O i y EO q).vq λE c G h q=>uU g q λt J g z q=>Vu h q λj h q=>wW9 g h r z q.1 q.2.1 q.2.2)
 |.qA tag e i,d,w=>yS d λo s p x y=>No ((yH hh O e x EO w).vq λu b A g q=>(yH hh O i y EO q).vq λE c G h q=>uU g q λt J g z q=>wG7 h q λj h q=>Aa g h r z q)
 |.subQ tag e i,d,w=>yS d λo s p x y=>No ((yH hh O e x EO w).vq λu b A g q=>(yH hh O i y EO q).vq λE c G h q=>uU g q λt l g z q=>uU h q λR j h P q=>zT3 g h r z P q.1 q.2)
 |.nE e i,d,w=>yS d λo s p x y=>No ((yH hh O e x EO w).vq λu b A g q=>(yH hh O i y EO q).vq λE c G h q=>uU g q λt l g z q=>Vu h q λj h q=>zT7 g h r z q.1 q.2)
 |.F4 tks,d,w=>Rf d λS kd p d=>uU r w λt J r z w=>zR5 hh EO d r z w.1 w.2
omit hh O EO in
@[elab_as_elim] theorem Li{K:Frag}{y:Nat}{tag:Nat}{d:X}{g:Tg}{ik:Ik}{it:X}{ifs:dW}(tg v:Expr){P:Expr->Expr->Prop}(h:hM K ks (.N9 y) (.zO tag d g ik it ifs) tg v=true)
  (k:∀e a target iter c scope b,y<NN->ks.lookup (nm y)=some .local->LcOk K ks g ik (yJ K d) (yJ K it ks) (Lm K ifs) a target iter c scope->(e.line==b.line)=true->(scope.names.any λx=>x.1==nm y&&(x.2==.local||x.2==.cell))=false->P (.Name (nm y) e) (.ListComp a [⟨target,iter,c,0⟩] scope b)):P tg v:=by
 refine qK (qO h) λf i=>qK (qO f) λj l=>zX (kG j) λe m n o=>?_;subst m;obtain⟨a,target,iter,c,scope,b,rfl,L⟩:=Oz l;refine qK (qO (zO7.symm.trans (Qt.symm.trans i))) λp q=>?_;exact k e a target iter c scope b n o L p ((Bool.not_eq_true' _).mp q)
omit hh O EO in
theorem x5{K:Frag}{tg v:Expr}{P:T->X->Prop}(b:hM K ks t x tg v=true)(k:∀y tag a c ik it ifs,hM K ks (.N9 y) (.zO tag a c ik it ifs) tg v=true->P (.N9 y) (.zO tag a c ik it ifs)):P t x:=by
 cases t with
 |N9 y=>cases x with
  |zO=>exact k _ _ _ _ _ _ _ b
  |_=>exact Bool.noConfusion b
 |_=>exact Bool.noConfusion b
theorem zD2{t:T}{x:X}{tg v:Expr}{pos:Pos}{m:M}{H:St}{Q:Fl->M->St->Prop}(i:hM (K' Z) ks t x tg v=true)(w:wE Z n F qM x m (λa j=>L6 Z n F qM t a m (λm' h=>Q .next m' h) j) H):qF Z n eV.locals m (exec (.Assign [tg] v pos) eV) H (FQ Q) qM:=
 x5 (P:=λt x=>wE Z n F qM x m (λa j=>L6 Z n F qM t a m (λm' h=>Q .next m' h) j) H->qF Z n eV.locals m (exec (.Assign [tg] v pos) eV) H (FQ Q) qM) i (λy tag b A ik it c i w=>Li tg v i λB l g iter p k q r s L u z=>
  eO (tag:=tag) (.inl hh) O EO L.S (Q:=FQ Q) (IT:=λm' d e=>xT Z n F qM c m' d e) (El:=λm' d e=>wE Z n F qM b m' d e) r s u z L.p L.t (λC m' d e f=>x3 hh O c L.i (vD EO L.S C) f) (λC m' d e f=>yH hh O b L.e (vD EO L.S C) f) (nP (x:=it) (ik:=ik) hh O EO L.it (λo f=>yH hh O it o EO f) w)) w
theorem wQ2(d:(jM ks k .cell tg&&yJ (K' Z) e ks v)=true)(w:wS Z n F qM (.R7 (.qG k) e) m Q H):qF Z n eV.locals m (exec (.Assign [tg] v pos) eV) H (FQ Q) qM:=
 xJ d λf g=>yW f λp h b=>zT4 ((cgA (qF6 (nm k)) EO.names).trans b) ((yH hh O e g EO w).vq λx a r i q=>wU q λc j q=>wU q λo l q=>kW (R9.toS (pD EO h b j l i q)))
theorem zB3(b:Bo (K' Z) ks (.R7 t e) s=true)(w:wS Z n F qM (.R7 t e) m Q H):qF Z n eV.locals m (exec s eV) H (FQ Q) qM:=by
 refine nK b λc v d b=>jZ b λj b=>((Bool.or_eq_true _ _).mp b).elim (λb=>((Bool.or_eq_true _ _).mp b).elim (λb=>vG b λf g h=>zM6 f ((yH hh O e g EO w).vq λx a l i q=>wP6 hh O EO h i q)) λb=>zD2 hh O EO b w) λb=>?_;cases t with
 |qG k=>exact wQ2 hh O EO b w
 |_=>exact Bool.noConfusion b
theorem zP1(c:Bo (K' Z) ks (.aM C e k op x) s=true)(w:wS Z n F qM (.aM C e k op x) m Q H):qF Z n eV.locals m (exec s eV) H (FQ Q) qM:=by
 refine Ls c λt B v p c=>tN c λo l R c=>Ln c λD E G I A J=>Lr G (Ha D ?_);refine wW4 ((yH hh O e E EO w).vq λS a T i q=>uU i q λt f i K q=>wU q λo L q=>pQ i ?_);refine R9.Qb (dQ O I (On A) K L ⟨rfl,rfl⟩) λM d=>(yH hh O x J EO q).vq λu b U h q=>wU q λV j q=>Vu d q λy d q=>Ld (g:=sV op y) h q λW z h N q=>?_;exact R9.Qb (Yw d h N ⟨rfl,rfl⟩) λr P=>Xa O A j P q
theorem zU6(d:Bo (K' Z) ks (.Fo tag e i op x) s=true)(w:wS Z n F qM (.Fo tag e i op x) m Q H):qF Z n eV.locals m (exec s eV) H (FQ Q) qM:=by
 refine Ls d λt D v p d=>zZ7 d λo j R d=>Qp d λE G I C J=>Ha E ?_;refine wQ9 ((yH hh O e G EO w).vq λS a T f q=>(yH hh O i I EO q).vq λU b V h q=>uU f q λt l f K q=>zT5 h q λj o h L q=>?_) (λl u st p e=>by rw[e] at C;exact Bool.noConfusion C);refine R9.Qb (zL2 f h K L ⟨rfl,rfl⟩) λM k=>(yH hh O x J EO q).vq λu c W A q=>wU q λX B q=>Vu k q λy k q=>Ld (g:=sV op y) A q λY z A N q=>?_;exact R9.Qb (Yw k A N ⟨rfl,rfl⟩) λr P=>Aa f h P B q
omit hh O EO in
theorem wV0{A B:Prop}{b a:Prop}(e:A->b)(d:B->a)(q:if c=true then A else B):if c=true then b else a:=match c,q with|true,q=>e q|false,q=>d q
def Mz(Z:Ctx)(n:Nat)(F:Fm)(a:List (Str×NameKind))(eV:Env)(ss:Ss):Prop:=∀{l:List Stmt}{m:M}{H:St}{Q:Fl->M->St->Prop},Ql (K' Z) a ss l=true->O6 Z n F qM ss m Q H->qF Z n eV.locals m (qQ8 l eV) H (FQ Q) qM
def SoS(Z:Ctx)(n:Nat)(F:Fm)(a:List (Str×NameKind))(eV:Env)(st:S):Prop:=∀{s:Stmt}{m:M}{H:St}{Q:Fl->M->St->Prop},Bo (K' Z) a st s=true->wS Z n F qM st m Q H->qF Z n eV.locals m (exec s eV) H (FQ Q) qM
theorem zB4{t:Tt}{a b:Ss}(I:Mz Z n F ks eV a)(J:Mz Z n F ks eV b):SoS Z n F ks eV (.ite t a b):=λd w=>Rh d λe i j p d=>vG d λf g h=>wK1 ((L9 hh O t f EO w).qq λc k q=>wV0 (I g) (J h) q)
theorem zT2(I:Mz Z n F ks eV b):SoS Z n F ks eV (.Jr t b):=λa w=>Lc a λd m o p a=>vG a λe g i=>jD e (w.elim λf w=>Rq (λh=>h.elim λ_ h=>h.elim λ_ q=>q.elim) (λ_ _ q=>q.elim) O EO (λj k l c=>L9 hh O t g EO c) (λj k l c=>I i c) w)
theorem zI8(I:Mz Z n F ks eV b):SoS Z n F ks eV (.yM c k ik x b):=by
 intro s m H Q f w;refine Lb f λE iter G J p f=>Qp f λu y z A j=>jD u (yW y λK l r=>?_);refine zS0 (B:=λv g i e=>if c=true then T9 (F k) λa=>T9 (e.qG k a) λ_=>O6 Z n F qM b g i (e.qU k a (some v)) else O6 Z n F qM b (up g k v) i e) (λh=>h.elim λ_ h=>h.elim λ_ q=>q.elim) (λ_ _ q=>q.elim) O EO z (λv x g i e t d=>?_) (nP (x:=x) (ik:=ik) hh O EO A (λo d=>yH hh O x o EO d) w);cases c with
 |false=>exact kW (sL EO l r t (I j d))
 |true=>exact wU d λa C d=>wU d λo D d=>kW (R9.toS (pD EO l r C D t (I j d)))
theorem zV9{st:S}(I:SoS Z n F ks eV st)(J:Mz Z n F ks eV r):Mz Z n F ks eV (.cons st r):=by
 refineλb w=>xP b λs l b=>xJ b λc d=>yK ((I c w).qq λf e g q=>?_);cases f with
 |next=>exact J d q
 |ret v=>exact q.elim λa q=>qZ a q.1 q.2
 |_=>exact q
mutual
theorem soS:∀(st:S),SoS Z n F ks eV st
 |.bad=>λ_ w=>w.elim
 |.expr e=>λd w=>iM d λv p d=>xJ d λf g=>Hp f EO.kind ((yH hh O e g EO w).vq λv a h i q=>q)
 |.R7 t e=>zB3 hh O EO
 |.aM C e k j x=>zP1 hh O EO
 |.Fo tag e i j x=>zU6 hh O EO
 |.ret e=>λd w=>tR d λv p d=>dU d λv d=>Iq ((yH hh O e d EO w).qq λv h q=>q)
 |.Ke=>λd w=>tR d λv p d=>E4.mp d▸zB6 (qZ .none .none w)
 |.ite t a b=>zB4 hh O EO (Qd a) (Qd b)
 |.Jr t b=>zT2 hh O EO (Qd b)
 |.yM c k l x b=>zI8 hh O EO (Qd b)
 |.raise e=>λd _=>Bool.noConfusion d
 |.Bk c m t=>λd _=>Bool.noConfusion d
theorem Qd:∀(ss:Ss),Mz Z n F ks eV ss
 |.nil=>λa w=>jD a (zN5 w)
 |.cons st r=>zV9 hh O EO (soS st) (Qd r)
end
end
end
end
section
open PySem.Calls PySem.Spec
noncomputable def nO(K:Frag)(f:Addr)(g:qZ6->List Stmt->Bool):Bool:=match K.lookup f with
 |some o=>(match o.data with
  |.func fd=>(match fd.body with
   |.stmts b=>g fd b
   |_=>false)
  |_=>false)
 |none=>false
theorem x6{K:Frag}(h:nO K f g=true):∃d a fd c b,K.lookup f=some ⟨d,a,.func fd,c⟩∧fd.body=.stmts b∧g fd b=true:=by
 unfold nO at h;cases e:K.lookup f with
 |none=>rw[e] at h;exact Bool.noConfusion h
 |some o=>
  rw[e] at h;replace h:(match o.data with
   |.func fd=>(match fd.body with
    |.stmts b=>g fd b
    |_=>false)
   |_=>false)=true:=h
  clear e;obtain⟨d,a,j,c⟩:=o;cases j with
  |func fd=>
   replace h:(match fd.body with
    |.stmts b=>g fd b
    |_=>false)=true:=h
   cases i:fd.body with
   |stmts b=>rw[i] at h;exact⟨d,a,fd,c,b,rfl,i,h⟩
   |_=>rw[i] at h;exact Bool.noConfusion h
  |_=>exact Bool.noConfusion h
noncomputable def dK(K:Frag)(ps:List (Bool×Nat))(a:List Nat)(fd:qZ6):Bool:=zB0 fd ps a&&fd.closure.isEmpty&&qE7 K fd.code fd.qualname
noncomputable def qH(K:Frag)(f:Addr)(ps:List (Bool×Nat))(c:List Nat)(b:Ss):Bool:=nO K f λfd a=>dK K ps c fd&&Ql K fd.scope.names b a
theorem iN{K:Frag}{f:Addr}{ps:List (Bool×Nat)}{a:List Nat}{g:qZ6->List Stmt->Bool}{P:Prop}(i:nO K f (λfd body=>dK K ps a fd&&g fd body)=true)
  (k:∀d b fd c body,K.lookup f=some ⟨d,b,.func fd,c⟩->fd.body=.stmts body->fd.closure=[]->Ba fd ps a->qE7 K fd.code fd.qualname=true->g fd body=true->P):P:=by
 refine wL3 (x6 i) λd b fd c body j l e=>?_;exact xJ e λh m=>vG h λn o p=>k d b fd c body j l (E6.mp o) (zV5 n) p m
def tC(Z:Ctx)(n:Nat)(f:Addr)(a:List AV)(H:St)(Q:AV->St->Prop)(R:Value->St->Prop):Prop:=∀vs,zK Is vs a->∀(A:O3)(RR:qL4->S8->Prop)(κ:Kp)(s:S8),uW Z A n->mA Z κ A s.heap->Rep Z κ s H->
 (∀v s' κ' H',Rep Z κ' s' H'->yL κ s.heap κ' s'.heap->VQ Q v H'->RR (.ok (.ret v)) s')->(∀e s' κ' H',Rep Z κ' s' H'->jO κ s.heap κ' s'.heap->R e H'->RR (.error e) s')->qW6 (model O7 Z.w) A (.call (.ref f) ⟨vs,[]⟩) RR s
section
variable{Z:Ctx}{f:Addr}{ps:List (Bool×Nat)}{cks:List Nat}{as:List AV}{g:qZ6->List Stmt->Bool}{W:Fm->M->(Fl->M->St->Prop)->St->Prop}
theorem x7(O:Z.Ok)(i:nO Z.K f (λfd body=>dK Z.K ps cks fd&&g fd body)=true)(b:ps.length=as.length)(d:∀e H',R e H'->∃a C g,e=.ref a∧H'.exc C a=some g)(j:(∃e H',R e H')->∀a H',Q a H'->False)
  (h:∀(fd:qZ6)(body:List Stmt)(eV:Env)(F:Fm)(m:M)(c:Fl->M->St->Prop)(H':St),g fd body=true->zV eV F fd.scope.names->eV.frame=some eV.locals->W F m c H'->qF Z n eV.locals m (qQ8 body eV) H' (FQ c) R)
  (w:yP (fK ps as λ_=>none) cks (λ_=>none) H λF H'=>W F (qV3 ps as λ_=>none) (lP Q) H'):tC Z (n+1) f as H Q R:=
 iN i λE G fd I body k l o p q r J t A K L s u v x y z=>Rv O k l o p q b d j (λeV F m c H' B _ _ D w=>h fd body eV F m c H' r B D w) w t u v x y z
theorem Mw(O:Z.Ok)(i:nO Z.K f (λfd body=>dK Z.K ps cks fd&&g fd body)=true)(b:ps.length=as.length)(d:∀e H',R e H'->∃a C g,e=.ref a∧H'.exc C a=some g)(j:(∃e H',R e H')->∀a H',Q a H'->False)
  (h:∀(fd:qZ6)(body:List Stmt)(eV:Env)(F:Fm)(m:M)(c:Fl->M->St->Prop)(H':St),g fd body=true->zV eV F fd.scope.names->eV.frame=some eV.locals->W F m c H'->qF Z n eV.locals m (qQ8 body eV) H' (FQ c) R)
  (w:yP (fK ps as λ_=>none) cks (λ_=>none) H λF H'=>W F (qV3 ps as λ_=>none) (lP Q) H'):qB Z (n+1) f as H Q R:=
 iN i λu v fd x body k l o p q r=>Lg O k l o p q b d j (λeV F m c H' s _ _ t w=>h fd body eV F m c H' r s t w) w
theorem Re(O:Z.Ok)(d:nO Z.K f (λfd body=>dK Z.K ps cks fd&&g fd body)=true)(a:ps.length=as.length)
  (c:∀(fd:qZ6)(body:List Stmt)(eV:Env)(F:Fm)(m:M)(b:Fl->M->St->Prop)(H':St),g fd body=true->zV eV F fd.scope.names->W F m b H'->qF Z n eV.locals m (qQ8 body eV) H' (FQ b) qM)
  (w:yP (fK ps as λ_=>none) cks (λ_=>none) H λF H'=>W F (qV3 ps as λ_=>none) (lP Q) H'):qB Z (n+1) f as H Q qM:=
 Mw O d a (λ_ _ q=>q.elim) (λh=>h.elim λ_ h=>h.elim λ_ q=>q.elim) (λfd body eV F m b H' h e _ w=>c fd body eV F m b H' h e w) w
theorem dL(O:Z.Ok)(d:nO Z.K f (λfd body=>dK Z.K ps cks fd&&g fd body)=true)(a:ps.length=as.length)
  (c:∀(fd:qZ6)(body:List Stmt)(eV:Env)(F:Fm)(m:M)(b:Fl->M->St->Prop)(H':St),g fd body=true->zV eV F fd.scope.names->W F m b H'->qF Z n eV.locals m (qQ8 body eV) H' (FQ b) qM)
  (w:yP (fK ps as λ_=>none) cks (λ_=>none) H λF H'=>W F (qV3 ps as λ_=>none) (lP Q) H'):tC Z (n+1) f as H Q qM:=
 x7 O d a (λ_ _ q=>q.elim) (λh=>h.elim λ_ h=>h.elim λ_ q=>q.elim) (λfd body eV F m b H' h e _ w=>c fd body eV F m b H' h e w) w
theorem tD(c:Z.hd=none)(O:Z.Ok)(d:qH Z.K f ps cks b=true)(a:ps.length=as.length)(w:wFn Z n ps cks b as Q H):qB Z (n+1) f as H Q qM:=
 Re (W:=λF m e g=>O6 Z n F qM b m e g) O d a (λ_ _ _ _ _ _ _ h i j=>Qd c O i b h j) w
theorem Ra(t:Z.hd=none)(O:Z.Ok){eV:Env}{F:Fm}{c:List (Str×NameKind)}(g:zV eV F c){m:M}{k:Nat}{d:Xs}{x pos:Pos}{a:List Expr}(s:wK a=true)(o:k<NN)(l:c.lookup (nm k)=some .globalImplicit)(p:gM Z.K k (.ref f)=true)(e:gE Z.K d c a=true)
  (w:wEs Z n F qM d m (λb H'=>b=as∧H'=H) H) (j:qB Z n f as H Q R):R9 Z n (some (eV.locals,m)) (eval (.Call (.Name (nm k) x) a [] pos) eV) H (VQ Q) R:=by
 refine Hi (R9.Qb (sK O g o l p ⟨rfl,rfl⟩) λv i=>pQ i (vX s ((La t O d e g w).mono (λu C q=>?_) λ_ _ r=>r.elim)));refine zX q λ_ y z A=>?_;clear q;subst z;subst A;exact⟨j.1.elim (qU2.K O) λh=>h.elim λ_ h=>h.elim λ_ B=>qU2.fn B,(j.2 u y).N9⟩
end
end
noncomputable def tE:Ss:=.cons (.R7 (.R4 31 (.N9 47) 14) (.R3 (.int 0))) .nil
noncomputable def tA:Ss:=.cons (.ret (.bin .add (.R4 31 (.N9 66) 14) (.max2 (.N9 56) (.R3 (.int 0))))) .nil
noncomputable def aQ:Ss:=.cons (.R7 (.N9 75) (.R3 .none)) (.cons (.yM false 53 (.lst 1) (.N9 91) (.cons (.ite (.and (.cons (.val (.R6 .fD (.N9 53) (.R3 .none))) (.cons (.or (.cons (.val (.R6 .By (.N9 75) (.R3 .none))) (.cons (.val (.R6 .lt (.N9 53) (.N9 75))) .nil))) .nil))) (.cons (.R7 (.N9 75) (.N9 53)) .nil) .nil) .nil)) (.cons (.ret (.N9 75)) .nil))
noncomputable def tI:Ss:=.cons (.R7 (.R4 31 (.N9 66) 14) (.max2 (.R4 31 (.N9 66) 14) (.N9 53))) .nil
noncomputable def Lo:Ss:=.cons (.ret (.and (.cons (.R6 .fD (.N9 53) (.R3 .none)) (.cons (.R6 .le (.N9 53) (.R4 31 (.N9 66) 14)) .nil)))) .nil
noncomputable def pA:Ss:=.cons (.R7 (.R4 138 (.N9 47) 113) (.N9 113)) (.cons (.R7 (.R4 138 (.N9 47) 102) (.N9 102)) (.cons (.R7 (.R4 138 (.N9 47) 124) (.N9 124)) (.cons (.R7 (.R4 138 (.N9 47) 9) (.N9 9)) (.cons (.R7 (.R4 138 (.N9 47) 126) (.N9 126)) (.cons (.R7 (.R4 138 (.N9 47) 86) (.R5 21 (.str 38))) (.cons (.R7 (.R4 138 (.N9 47) 162) (.R3 .none)) (.cons (.R7 (.R4 138 (.N9 47) 137) (.R3 (.bool false))) (.cons (.R7 (.R4 138 (.N9 47) 248) (.R3 (.bool false))) (.cons (.R7 (.R4 138 (.N9 47) 71) (.R3 .none)) .nil)))))))))
noncomputable def tO:Ss:=.cons (.ite (.val (.R6 (.Bj 2) (.R4 138 (.N9 26) 9) (.N9 115))) (.cons (.R7 (.subQ 2 (.N9 115) (.R4 138 (.N9 26) 9)) (.list 3 .nil)) .nil) .nil) (.cons (.expr (.append 3 (.subQ 2 (.N9 115) (.R4 138 (.N9 26) 9)) (.N9 26))) (.cons (.R7 (.R4 138 (.N9 26) 86) (.R5 97 (.str 114))) .nil))
noncomputable def rY:Ss:=.cons (.R7 (.subQ 2 (.N9 115) (.R4 138 (.qG 26) 9)) (.zO 3 (.N9 15) (.one 15) (.lst 3) (.Kd 2 (.N9 115) (.R4 138 (.qG 26) 9) (.list 3 .nil)) (.cons (.val (.R6 .tU (.R4 138 (.N9 15) 113) (.R4 138 (.qG 26) 113))) .nil))) .nil
noncomputable def bQ:Ss:=.cons (.R7 (.N9 152) (.Kd 2 (.N9 115) (.N9 9) (.list 3 .nil))) (.cons (.ret (.ite (.lst 3 (.N9 152)) (.wZ 3 (.N9 152) (.R3 (.int 0))) (.R3 .none))) .nil)
noncomputable def rJ:Ss:=.cons (.ret (.uX 3 (.Kd 2 (.N9 115) (.N9 9) (.list 3 .nil)))) .nil
noncomputable def hO:Ss:=.cons (.R7 (.qG 71) .oM) (.cons (.yM false 9 (.qk 4) (.N9 115) (.cons (.yM false 26 (.lst 5) (.subQ 4 (.N9 115) (.N9 9)) (.cons (.R7 (.nE (.qG 71) (.R4 138 (.N9 26) 113)) (.N9 26)) .nil)) (.cons (.R7 (.subQ 4 (.N9 115) (.N9 9)) (.list 5 .nil)) .nil))) (.cons (.ret (.zO 7 (.nE (.qG 71) (.N9 113)) (.one 113) (.lst 6) (.sortI 6 (.qG 71)) .nil)) .nil))
noncomputable def aZ:Ss:=.cons (.R7 (.qG 71) .oM) (.cons (.yM false 9 (.qk 2) (.N9 115) (.cons (.ite (.and (.cons (.val (.R6 .uO (.xS (.N9 9) (.R3 (.int 0))) (.N9 69))) (.cons (.lst 3 (.subQ 2 (.N9 115) (.N9 9))) .nil))) (.cons (.R7 (.nE (.qG 71) (.ite (.val (.R6 .By (.xS (.N9 9) (.R3 (.int 1))) (.R3 .none))) (.neg 1) (.xS (.N9 9) (.R3 (.int 1))))) (.N9 9)) .nil) .nil) .nil)) (.cons (.ret (.zO 9 (.nE (.qG 71) (.N9 74)) (.one 74) (.lst 8) (.sortI 8 (.qG 71)) .nil)) .nil))
noncomputable def pI:Ss:=.cons (.R7 (.R4 195 (.N9 47) 113) (.N9 113)) (.cons (.R7 (.R4 195 (.N9 47) 41) (.N9 41)) (.cons (.R7 (.R4 195 (.N9 47) 112) (.N9 112)) (.cons (.R7 (.R4 195 (.N9 47) 86) (.R5 61 (.str 73))) (.cons (.R7 (.R4 195 (.N9 47) 115) (.oH 4)) (.cons (.R7 (.R4 195 (.N9 47) 42) (.list 10 .nil)) (.cons (.R7 (.R4 195 (.N9 47) 57) (.R3 .none)) (.cons (.R7 (.R4 195 (.N9 47) 35) (.R3 .none)) (.cons (.R7 (.R4 195 (.N9 47) 26) (.R3 .none)) (.cons (.R7 (.R4 195 (.N9 47) 149) (.list 11 .nil)) (.cons (.R7 (.R4 195 (.N9 47) 142) (.list 12 .nil)) (.cons (.R7 (.R4 195 (.N9 47) 116) (.R3 .none)) (.cons (.R7 (.R4 195 (.N9 47) 99) (.R3 .none)) (.cons (.R7 (.R4 195 (.N9 47) 216) (.R3 (.bool false))) (.cons (.R7 (.R4 195 (.N9 47) 107) (.R3 (.int 0))) (.cons (.R7 (.R4 195 (.N9 47) 181) (.R3 .none)) (.cons (.R7 (.R4 195 (.N9 47) 146) (.R3 (.int 0))) (.cons (.R7 (.R4 195 (.N9 47) 203) (.R3 (.bool false))) (.cons (.R7 (.R4 195 (.N9 47) 85) (.list 13 .nil)) (.cons (.R7 (.R4 195 (.N9 47) 72) (.R3 .none)) (.cons (.R7 (.R4 195 (.N9 47) 118) (.R3 .none)) (.cons (.R7 (.R4 195 (.N9 47) 64) (.list 14 .nil)) (.cons (.R7 (.R4 195 (.N9 47) 103) (.list 15 .nil)) (.cons (.R7 (.R4 195 (.N9 47) 119) (.R3 .none)) (.cons (.R7 (.R4 195 (.N9 47) 140) (.R3 .none)) (.cons (.R7 (.R4 195 (.N9 47) 36) (.R3 (.int 0))) .nil)))))))))))))))))))))))))
noncomputable def Yg:Ss:=.cons (.R7 (.R4 195 (.N9 51) 86) (.R5 62 (.str 81))) (.cons (.R7 (.R4 195 (.N9 51) 42) (.list 10 .nil)) (.cons (.R7 (.R4 195 (.N9 51) 57) (.R3 .none)) (.cons (.R7 (.R4 195 (.N9 51) 35) (.R3 .none)) (.cons (.R7 (.R4 195 (.N9 51) 99) (.N9 99)) (.cons (.R7 (.R4 195 (.N9 51) 116) (.N9 116)) .nil)))))
noncomputable def rV:Ss:=.cons (.R7 (.R4 138 (.N9 26) 86) (.R5 22 (.str 43))) (.cons (.R7 (.R4 138 (.N9 26) 71) (.tup (.cons (.tup (.cons (.R3 (.str 101)) .nil)) (.cons (.N9 116) .nil)))) (.cons (.R7 (.R4 195 (.R4 138 (.N9 26) 102) 26) (.R3 .none)) (.cons (.expr (.call (.R5 153 (.ref 206)) (.cons (.R4 138 (.N9 26) 102) (.cons (.tup (.cons (.R3 (.str 101)) .nil)) (.cons (.N9 116) .nil))))) .nil)))
noncomputable def bZ:Ss:=.cons (.ite (.or (.cons (.not (.val (.R4 195 (.N9 51) 216))) (.cons (.val (.R6 .gt (.R4 195 (.N9 51) 107) (.R3 (.int 0)))) .nil))) (.cons (.ret (.R3 (.bool false))) .nil) .nil) (.cons (.R7 (.R4 195 (.N9 51) 86) (.R5 129 (.str 135))) (.cons (.ret (.R3 (.bool true))) .nil))
noncomputable def rU:Ss:=.cons (.expr (.call (.R5 217 (.ref 154)) (.cons (.R4 488 (.R4 138 (.N9 26) 124) 115) (.cons (.N9 26) .nil)))) (.cons (.R7 (.R4 138 (.N9 26) 86) (.R5 22 (.str 43))) (.cons (.R7 (.R4 195 (.R4 138 (.N9 26) 102) 26) (.R3 .none)) .nil))
noncomputable def aW:Ss:=.cons (.ite (.val (.R6 .uO (.R4 195 (.N9 51) 86) (.R5 128 (.str 133)))) (.cons (.expr (.append 16 (.R4 409 (.N9 151) 37) (.R4 138 (.R4 195 (.N9 51) 26) 124))) .nil) .nil) .nil
noncomputable def bW:Ss:=.cons (.R7 (.R4 195 (.N9 51) 99) (.R3 .none)) (.cons (.R7 (.R4 195 (.N9 51) 116) (.R3 .none)) (.cons (.ite (.and (.cons (.not (.val (.call (.R5 207 (.ref 220)) (.cons (.N9 51) .nil)))) (.cons (.val (.R6 .gt (.N9 56) (.R3 (.int 0)))) .nil))) (.cons (.R7 (.R4 195 (.N9 51) 86) (.R5 129 (.str 135))) (.cons (.R7 (.R4 195 (.N9 51) 57) (.call (.R5 208 (.ref 42)) (.cons (.R4 409 (.N9 151) 66) (.cons (.N9 56) .nil)))) .nil)) .nil) .nil))
noncomputable def bX:Ss:=.cons (.ite (.val (.R6 .uO (.R4 195 (.N9 51) 86) (.R5 128 (.str 133)))) (.cons (.expr (.call (.R5 213 (.ref 227)) (.cons (.R4 195 (.N9 51) 26) .nil))) (.cons (.expr (.call (.R5 153 (.ref 206)) (.cons (.N9 51) (.cons (.tup (.cons (.R3 (.str 35)) .nil)) (.cons (.R3 .none) .nil))))) .nil)) (.cons (.ite (.val (.R6 .uO (.R4 195 (.N9 51) 86) (.R5 168 (.str 180)))) (.cons (.expr (.call (.R5 153 (.ref 206)) (.cons (.N9 51) (.cons (.tup (.cons (.R3 (.str 67)) (.cons (.R4 195 (.N9 51) 35) .nil))) (.cons (.R3 .none) .nil))))) .nil) (.cons (.expr (.call (.R5 153 (.ref 206)) (.cons (.N9 51) (.cons (.R3 .none) (.cons (.R3 .none) .nil))))) .nil)) .nil)) .nil
noncomputable def rK:Ss:=.cons (.R7 (.R4 265 (.N9 47) 113) (.N9 113)) (.cons (.R7 (.R4 265 (.N9 47) 78) (.N9 78)) (.cons (.R7 (.R4 265 (.N9 47) 199) (.list 17 .nil)) (.cons (.R7 (.R4 265 (.N9 47) 163) (.R3 (.bool false))) .nil)))
noncomputable def aX:Ss:=.cons (.ite (.val (.R6 .ge (.uX 18 (.R4 409 (.N9 151) 89)) (.R4 467 (.R4 409 (.N9 151) 110) 89))) (.cons .bad .nil) .nil) (.cons (.R7 (.N9 51) (.call (.R5 172 (.ref 195)) (.cons (.oN 409 (.N9 151) 218 406 .nil) (.cons (.N9 41) (.cons (.N9 112) .nil))))) (.cons (.R7 (.R4 195 (.N9 51) 216) (.and (.cons (.R6 .fD (.R4 265 (.N9 112) 78) (.R3 .none)) (.cons (.R4 195 (.R4 265 (.N9 112) 78) 216) .nil)))) (.cons (.expr (.append 17 (.R4 265 (.N9 112) 199) (.N9 51))) (.cons (.expr (.append 18 (.R4 409 (.N9 151) 89) (.N9 51))) (.cons (.ret (.N9 51)) .nil)))))
noncomputable def pO:Ss:=.cons (.yM false 51 (.lst 19) (.N9 73) (.cons (.ite (.val (.R6 .uO (.R4 195 (.N9 51) 86) (.R5 61 (.str 73)))) (.cons (.R7 (.R4 195 (.N9 51) 86) (.R5 62 (.str 81))) (.cons (.R7 (.R4 195 (.N9 51) 181) (.N9 181)) (.cons (.ite (.val (.R6 .fD (.N9 181) (.R3 .none))) (.cons (.aM 195 (.N9 181) 146 .add (.R3 (.int 1))) (.cons (.R7 (.R4 195 (.N9 181) 86) (.R5 194 (.str 197))) .nil)) .nil) .nil))) .nil) .nil)) .nil
noncomputable def gQ:Ss:=.cons (.R7 (.N9 181) (.R4 195 (.N9 51) 181)) (.cons (.R7 (.R4 195 (.N9 51) 181) (.R3 .none)) (.cons (.ite (.val (.R6 .By (.N9 181) (.R3 .none))) (.cons .Ke .nil) .nil) (.cons (.aM 195 (.N9 181) 146 .sub (.R3 (.int 1))) (.cons (.R7 (.R4 195 (.N9 181) 203) (.or (.cons (.R4 195 (.N9 181) 203) (.cons (.N9 203) .nil)))) (.cons (.ite (.and (.cons (.val (.R6 .uO (.R4 195 (.N9 181) 146) (.R3 (.int 0)))) (.cons (.val (.R6 .uO (.R4 195 (.N9 181) 86) (.R5 194 (.str 197)))) .nil))) (.cons (.R7 (.N9 116) (.ite (.val (.R4 195 (.N9 181) 203)) (.tup (.cons (.R5 229 (.str 240)) (.cons (.R3 (.str 261)) .nil))) (.R3 .none))) (.cons (.R7 (.R4 195 (.N9 181) 203) (.R3 (.bool false))) (.cons (.expr (.call (.R5 153 (.ref 206)) (.cons (.N9 181) (.cons (.R3 .none) (.cons (.N9 116) .nil))))) .nil))) .nil) .nil)))))
noncomputable def Mx:Ss:=.cons (.ret (.R6 (.iU 20 21) (.zO 20 (.N9 51) (.one 51) (.lst 17) (.R4 265 (.N9 112) 199) (.cons (.val (.R6 .tU (.R4 195 (.N9 51) 86) (.R5 20 (.str 29)))) .nil)) (.list 21 .nil))) .nil
noncomputable def Pq:Ss:=.cons (.yM false 26 (.lst 7) (.call (.R5 225 (.ref 173)) (.cons (.R4 195 (.N9 51) 115) .nil)) (.cons (.expr (.call (.R5 215 (.ref 213)) (.cons (.N9 26) (.cons (.tup (.cons (.R5 229 (.str 240)) (.cons (.R3 (.str 266)) .nil))) .nil)))) .nil)) (.cons (.R7 (.R4 195 (.N9 51) 86) (.R5 20 (.str 29))) .nil)
noncomputable def Vf:Ss:=.cons (.yM false 51 (.lst 17) (.R4 265 (.N9 112) 199) (.cons (.ite (.val (.R6 .uO (.R4 195 (.N9 51) 86) (.R5 61 (.str 73)))) (.cons (.expr (.call (.R5 183 (.ref 302)) (.cons (.N9 51) .nil))) .nil) .nil) .nil)) .nil
noncomputable def fL:Ss:=.cons (.yM false 26 (.lst 7) (.call (.R5 225 (.ref 173)) (.cons (.R4 195 (.N9 51) 115) .nil)) (.cons (.expr (.call (.R5 215 (.ref 213)) (.cons (.N9 26) (.cons (.tup (.cons (.R5 229 (.str 240)) (.cons (.R3 (.str 263)) .nil))) .nil)))) .nil)) (.cons (.Jr (.lst 11 (.R4 195 (.N9 51) 149)) (.cons (.expr (.call (.R5 215 (.ref 213)) (.cons (.pop 11 (.R4 195 (.N9 51) 149)) (.cons (.tup (.cons (.R5 229 (.str 240)) (.cons (.R3 (.str 264)) .nil))) .nil)))) .nil)) (.cons (.R7 (.R4 195 (.N9 51) 42) (.list 10 .nil)) (.cons (.R7 (.R4 195 (.N9 51) 57) (.R3 .none)) (.cons (.R7 (.R4 195 (.N9 51) 86) (.R5 169 (.str 182))) (.cons (.yM false 112 (.lst 12) (.R4 195 (.N9 51) 142) (.cons (.expr (.call (.R5 200 (.ref 309)) (.cons (.N9 112) .nil))) (.cons (.R7 (.R4 265 (.N9 112) 163) (.R3 (.bool true))) .nil))) (.cons (.expr (.call (.R5 247 (.ref 290)) (.cons (.N9 51) (.cons (.not (.R4 195 (.N9 51) 216)) .nil)))) .nil))))))
noncomputable def fP:Ss:=.cons (.ite (.val (.R6 .uO (.R4 195 (.N9 51) 86) (.R5 20 (.str 29)))) (.cons .Ke .nil) .nil) (.cons (.R7 (.R4 195 (.N9 51) 216) (.R3 (.bool true))) (.cons (.yM false 112 (.lst 12) (.R4 195 (.N9 51) 142) (.cons (.yM false 77 (.lst 17) (.R4 265 (.N9 112) 199) (.cons (.expr (.call (.R5 236 (.ref 323)) (.cons (.N9 77) .nil))) .nil)) .nil)) .nil))
noncomputable def Yh:Ss:=.cons (.ite (.or (.cons (.val (.R6 .uO (.R4 195 (.N9 51) 86) (.R5 131 (.str 143)))) (.cons (.val (.R6 .gt (.R4 195 (.N9 51) 107) (.R3 (.int 0)))) .nil))) (.cons (.ret (.R3 (.bool true))) .nil) .nil) (.cons (.ret (.and (.cons (.R6 .uO (.R4 195 (.N9 51) 86) (.R5 128 (.str 133))) (.cons (.R4 138 (.R4 195 (.N9 51) 26) 137) .nil)))) .nil)
noncomputable def mQ:Ss:=.cons (.ite (.val (.R6 .uO (.R4 195 (.N9 51) 86) (.R5 61 (.str 73)))) (.cons (.expr (.call (.R5 183 (.ref 302)) (.cons (.N9 51) .nil))) (.cons .Ke .nil)) .nil) (.cons (.ite (.val (.R6 .uO (.R4 195 (.N9 51) 86) (.R5 128 (.str 133)))) (.cons (.expr (.call (.R5 213 (.ref 227)) (.cons (.R4 195 (.N9 51) 26) .nil))) .nil) .nil) (.cons (.expr (.call (.R5 233 (.ref 316)) (.cons (.N9 51) .nil))) .nil))
noncomputable def pZ:Ss:=.cons (.R7 (.N9 164) (.R3 (.bool false))) (.cons (.yM false 51 (.lst 18) (.R4 409 (.N9 151) 89) (.cons (.ite (.and (.cons (.val (.R4 195 (.N9 51) 216)) (.cons (.val (.R6 .tU (.R4 195 (.N9 51) 86) (.R5 169 (.str 182)))) (.cons (.val (.R6 .tU (.R4 195 (.N9 51) 86) (.R5 20 (.str 29)))) (.cons (.not (.val (.call (.R5 138 (.ref 330)) (.cons (.N9 51) .nil)))) .nil))))) (.cons (.expr (.call (.R5 189 (.ref 234)) (.cons (.N9 151) (.cons (.N9 51) .nil)))) (.cons (.expr (.call (.R5 226 (.ref 337)) (.cons (.N9 51) .nil))) (.cons (.R7 (.N9 164) (.R3 (.bool true))) .nil))) .nil) .nil)) (.cons (.ret (.N9 164)) .nil))
noncomputable def rP:Ss:=.cons (.R7 (.N9 164) (.R3 (.bool false))) (.cons (.yM false 51 (.lst 18) (.R4 409 (.N9 151) 89) (.cons (.ite (.and (.cons (.val (.R6 .uO (.R4 195 (.N9 51) 86) (.R5 130 (.str 140)))) (.cons (.val (.call (.R5 160 (.ref 295)) (.cons (.wZ 12 (.R4 195 (.N9 51) 142) (.neg 1)) .nil))) .nil))) (.cons (.expr (.pop 12 (.R4 195 (.N9 51) 142))) (.cons (.expr (.call (.R5 153 (.ref 206)) (.cons (.N9 51) (.cons (.R3 .none) (.cons (.R3 .none) .nil))))) (.cons (.R7 (.N9 164) (.R3 (.bool true))) .nil))) (.cons (.ite (.and (.cons (.val (.R6 .uO (.R4 195 (.N9 51) 86) (.R5 169 (.str 182)))) (.cons (.val (.R6 (.iU 22 23) (.zO 22 (.N9 15) (.one 15) (.lst 12) (.R4 195 (.N9 51) 142) (.cons (.not (.val (.call (.R5 160 (.ref 295)) (.cons (.N9 15) .nil)))) .nil)) (.list 23 .nil))) .nil))) (.cons (.R7 (.R4 195 (.N9 51) 86) (.R5 20 (.str 29))) (.cons (.R7 (.N9 164) (.R3 (.bool true))) .nil)) .nil) .nil)) .nil)) (.cons (.ret (.N9 164)) .nil))
noncomputable def aB:Ss:=.cons (.ret (.and (.cons (.R6 .uO (.R4 195 (.N9 51) 86) (.R5 168 (.str 180))) (.cons (.R6 (.Ay 24 25) (.zO 24 (.N9 34) (.tup [74,34,28]) (.lst 10) (.R4 195 (.N9 51) 42) (.cons (.val (.R6 .uO (.N9 34) (.R3 (.str 192)))) .nil)) (.list 25 .nil)) .nil)))) .nil
noncomputable def My:Ss:=.cons (.ite (.val (.R6 .uO (.R4 195 (.N9 51) 86) (.R5 20 (.str 29)))) (.cons (.ret (.R3 (.bool true))) .nil) .nil) (.cons (.ite (.and (.cons (.not (.val (.call (.R5 232 (.ref 354)) (.cons (.N9 51) .nil)))) (.cons (.val (.R6 .tU (.R4 195 (.N9 51) 86) (.R5 169 (.str 182)))) .nil))) (.cons (.ret (.R3 (.bool false))) .nil) .nil) (.cons (.yM false 112 (.lst 12) (.R4 195 (.N9 51) 142) (.cons (.yM false 77 (.lst 17) (.R4 265 (.N9 112) 199) (.cons (.ite (.not (.val (.call (.R5 165 (.ref 361)) (.cons (.N9 77) .nil)))) (.cons (.ret (.R3 (.bool false))) .nil) .nil) .nil)) .nil)) (.cons (.ret (.R3 (.bool true))) .nil)))
noncomputable def fG:Ss:=.cons (.R7 (.N9 71) (.ite (.val (.R4 265 (.R4 409 (.N9 151) 141) 163)) (.list 26 (.cons (.R4 409 (.N9 151) 141) .nil)) (.list 26 .nil))) (.cons (.yM false 51 (.lst 18) (.R4 409 (.N9 151) 89) (.cons (.expr (.extend 26 27 (.N9 71) (.zO 27 (.N9 112) (.one 112) (.lst 12) (.R4 195 (.N9 51) 142) (.cons (.val (.R4 265 (.N9 112) 163)) .nil)))) .nil)) (.cons (.ret (.N9 71)) .nil))
noncomputable def bY:Ss:=.cons (.yM false 112 (.lst 12) (.R4 195 (.N9 51) 142) (.cons (.yM false 77 (.lst 17) (.R4 265 (.N9 112) 199) (.cons (.expr (.call (.R5 254 (.ref 373)) (.cons (.N9 77) .nil))) .nil)) .nil)) (.cons (.ite (.val (.call (.R5 232 (.ref 354)) (.cons (.N9 51) .nil))) (.cons (.expr (.call (.R5 233 (.ref 316)) (.cons (.N9 51) .nil))) .nil) .nil) .nil)
noncomputable def kP:Ss:=.cons (.R7 (.N9 164) (.R3 (.bool false))) (.cons (.yM false 112 (.lst 26) (.call (.R5 234 (.ref 366)) (.cons (.N9 151) .nil)) (.cons (.ite (.and (.cons (.not (.val (.call (.R5 160 (.ref 295)) (.cons (.N9 112) .nil)))) (.cons (.val (.R6 (.iU 28 29) (.zO 28 (.N9 51) (.one 51) (.lst 17) (.R4 265 (.N9 112) 199) (.cons (.not (.val (.call (.R5 165 (.ref 361)) (.cons (.N9 51) .nil)))) .nil)) (.list 29 .nil))) .nil))) (.cons (.R7 (.N9 152) (.zO 30 (.N9 51) (.one 51) (.lst 18) (.R4 409 (.N9 151) 89) (.cons (.val (.call (.R5 232 (.ref 354)) (.cons (.N9 51) .nil))) .nil))) (.cons (.yM false 51 (.lst 17) (.R4 265 (.N9 112) 199) (.cons (.expr (.call (.R5 254 (.ref 373)) (.cons (.N9 51) .nil))) .nil)) (.cons (.ite (.val (.R6 (.Ay 31 29) (.zO 31 (.N9 51) (.one 51) (.lst 30) (.N9 152) (.cons (.not (.val (.call (.R5 232 (.ref 354)) (.cons (.N9 51) .nil)))) .nil)) (.list 29 .nil))) (.cons (.R7 (.N9 164) (.R3 (.bool true))) .nil) .nil) .nil))) .nil) .nil)) (.cons (.ret (.N9 164)) .nil))
noncomputable def mZ:Ss:=.cons (.Jr (.or (.cons (.val (.call (.R5 253 (.ref 344)) (.cons (.N9 151) .nil))) (.cons (.val (.call (.R5 221 (.ref 349)) (.cons (.N9 151) .nil))) (.cons (.val (.call (.R5 258 (.ref 378)) (.cons (.N9 151) .nil))) .nil)))) (.cons (.aM 409 (.N9 151) 150 .add (.R3 (.int 1))) .nil)) .nil
noncomputable def mW:Ss:=.cons (.R7 (.R4 409 (.N9 47) 110) (.N9 110)) (.cons (.R7 (.R4 409 (.N9 47) 104) (.N9 104)) (.cons (.R7 (.R4 409 (.N9 47) 66) (.call (.R5 60 (.ref 31)) .nil)) (.cons (.R7 (.R4 409 (.N9 47) 89) (.list 18 .nil)) (.cons (.R7 (.R4 409 (.N9 47) 145) (.R3 (.int 0))) (.cons (.R7 (.R4 409 (.N9 47) 150) (.R3 (.int 0))) (.cons (.R7 (.R4 409 (.N9 47) 141) (.call (.R5 96 (.ref 265)) (.cons (.R3 (.int 0)) (.cons (.R3 .none) .nil)))) (.cons (.R7 (.R4 409 (.N9 47) 37) (.list 16 .nil)) (.cons (.R7 (.R4 409 (.N9 47) 83) (.R3 .none)) .nil))))))))
noncomputable def rG:Ss:=.cons (.aM 409 (.N9 47) 145 .add (.R3 (.int 1))) (.cons (.ret (.R4 409 (.N9 47) 145)) .nil)
noncomputable def rF:Ss:=.cons (.ret (.zO 32 (.N9 51) (.one 51) (.lst 18) (.R4 409 (.N9 151) 89) (.cons (.val (.R6 .uO (.R4 195 (.N9 51) 86) (.R5 62 (.str 81)))) .nil))) .nil
noncomputable def fF:Ss:=.cons (.ret (.zO 33 (.R4 195 (.N9 51) 113) (.one 51) (.lst 18) (.R4 409 (.N9 151) 89) (.cons (.and (.cons (.val (.R6 .tU (.R4 195 (.N9 51) 86) (.R5 20 (.str 29)))) (.cons (.val (.R6 .tU (.R4 195 (.N9 51) 86) (.R5 61 (.str 73)))) .nil))) .nil))) .nil
noncomputable def aY:Ss:=.cons (.R7 (.N9 53) (.call (.R5 188 (.ref 49)) (.cons (.zO 1 (.R4 195 (.N9 51) 57) (.one 51) (.lst 18) (.R4 409 (.N9 151) 89) .nil) .nil))) (.cons (.ite (.val (.R6 .By (.N9 53) (.R3 .none))) (.cons .bad .nil) .nil) (.cons (.expr (.call (.R5 205 (.ref 56)) (.cons (.R4 409 (.N9 151) 66) (.cons (.N9 53) .nil)))) (.cons (.yM false 51 (.lst 18) (.R4 409 (.N9 151) 89) (.cons (.ite (.val (.call (.R5 108 (.ref 63)) (.cons (.R4 409 (.N9 151) 66) (.cons (.R4 195 (.N9 51) 57) .nil)))) (.cons (.expr (.call (.R5 189 (.ref 234)) (.cons (.N9 151) (.cons (.N9 51) .nil)))) (.cons (.expr (.call (.R5 209 (.ref 248)) (.cons (.N9 51) .nil))) .nil)) .nil) .nil)) .nil)))
noncomputable def bJ:Ss:=.cons (.R7 (.N9 37) (.R4 409 (.N9 151) 37)) (.cons (.R7 (.R4 409 (.N9 151) 37) (.list 16 .nil)) (.cons (.ite (.val (.R6 .By (.R4 409 (.N9 151) 83) (.R3 .none))) (.cons (.ret (.R3 (.bool false))) .nil) .nil) (.cons (.yM false 90 (.lst 16) (.N9 37) (.cons (.expr (.oR 409 (.N9 151) 83 (.cons (.N9 90) .nil))) .nil)) (.cons (.ret (.R6 (.Ay 16 34) (.N9 37) (.list 34 .nil))) .nil))))
noncomputable def mX:Ss:=.cons (.R7 (.N9 105) (.oR 409 (.N9 151) 104 (.cons (.N9 81) .nil))) (.cons (.yM false 51 (.lst 32) (.N9 81) (.cons (.ite (.val (.R6 .uO (.R4 195 (.N9 51) 113) (.R4 195 (.N9 105) 113))) (.cons (.ret (.N9 51)) .nil) .nil) .nil)) (.cons .bad .nil))
noncomputable def mY:Ss:=.cons (.Jr (.val (.R3 (.bool true))) (.cons (.expr (.call (.R5 227 (.ref 385)) (.cons (.N9 151) .nil))) (.cons (.Jr (.val (.call (.R5 206 (.ref 435)) (.cons (.N9 151) .nil))) (.cons (.expr (.call (.R5 227 (.ref 385)) (.cons (.N9 151) .nil))) .nil)) (.cons (.R7 (.N9 81) (.call (.R5 220 (.ref 418)) (.cons (.N9 151) .nil))) (.cons (.ite (.lst 32 (.N9 81)) (.cons (.ret (.call (.R5 224 (.ref 442)) (.cons (.N9 151) (.cons (.N9 81) .nil)))) .nil) .nil) (.cons (.ite (.val (.R6 (.iU 33 35) (.call (.R5 241 (.ref 423)) (.cons (.N9 151) .nil)) (.list 35 .nil))) (.cons (.ret (.R3 .none)) .nil) .nil) (.cons (.expr (.call (.R5 190 (.ref 428)) (.cons (.N9 151) .nil))) .nil))))))) .nil
noncomputable def uY:Ss:=.cons (.R7 (.R4 488 (.N9 47) 113) (.N9 113)) (.cons (.R7 (.R4 488 (.N9 47) 136) (.N9 136)) (.cons (.R7 (.R4 488 (.N9 47) 115) (.oH 2)) (.cons (.R7 (.R4 488 (.N9 47) 127) (.R3 .none)) (.cons (.R7 (.R4 488 (.N9 47) 147) (.list 36 .nil)) (.cons (.R7 (.R4 488 (.N9 47) 36) (.list 37 .nil)) (.cons (.R7 (.R4 488 (.N9 47) 24) (.R3 .none)) (.cons (.R7 (.R4 488 (.N9 47) 72) (.R3 .none)) (.cons (.R7 (.R4 488 (.N9 47) 65) (.R3 .none)) .nil))))))))
noncomputable def aJ:Ss:=.cons (.ite (.val (.R6 .fD (.R4 488 (.N9 90) 127) (.R3 .none))) (.cons (.ret (.R3 (.bool false))) .nil) .nil) (.cons (.ret (.or (.cons (.not (.N9 166)) (.cons (.R6 (.iU 36 38) (.R4 488 (.N9 90) 147) (.list 38 .nil)) .nil)))) .nil)
noncomputable def Ym:Ss:=.cons (.aM 195 (.N9 51) 107 .add (.R3 (.int 1))) (.cons (.ite (.val (.N9 166)) (.cons (.R7 (.R4 488 (.N9 90) 127) (.N9 51)) .nil) (.cons (.expr (.append 36 (.R4 488 (.N9 90) 147) (.N9 51))) .nil)) .nil)
noncomputable def Qe:Ss:=.cons (.R7 (.R4 195 (.N9 51) 99) (.R3 .none)) (.cons (.R7 (.R4 195 (.N9 51) 116) (.R3 .none)) (.cons (.ite (.or (.cons (.val (.R6 (.N3 36) (.N9 51) (.R4 488 (.N9 90) 147))) (.cons (.and (.cons (.val (.R6 .fD (.R4 488 (.N9 90) 127) (.R3 .none))) (.cons (.val (.R6 .uO (.R4 195 (.R4 488 (.N9 90) 127) 113) (.R4 195 (.N9 51) 113))) .nil))) .nil))) (.cons (.R7 (.R4 195 (.N9 51) 116) (.tup (.cons (.R5 228 (.str 237)) (.cons (.R3 (.str 265)) .nil)))) .nil) (.cons (.ite (.and (.cons (.val (.R6 (.iU 37 39) (.R4 488 (.N9 90) 36) (.list 39 .nil))) (.cons (.val (.call (.R5 185 (.ref 499)) (.cons (.N9 90) (.cons (.N9 166) .nil)))) .nil))) (.cons (.expr (.call (.R5 134 (.ref 506)) (.cons (.N9 90) (.cons (.N9 51) (.cons (.N9 166) .nil))))) .nil) (.cons (.expr (.append 37 (.R4 488 (.N9 90) 36) (.tup (.cons (.N9 51) (.cons (.N9 166) .nil))))) (.cons (.R7 (.R4 195 (.N9 51) 86) (.R5 94 (.str 111))) .nil))) .nil)) .nil))
noncomputable def mJ:Ss:=.cons (.aM 195 (.qG 51) 107 .sub (.R3 (.int 1))) (.cons (.ite (.and (.cons (.val (.R6 .fD (.R4 488 (.N9 90) 127) (.R3 .none))) (.cons (.val (.R6 .uO (.R4 195 (.R4 488 (.N9 90) 127) 113) (.R4 195 (.qG 51) 113))) .nil))) (.cons (.R7 (.R4 488 (.N9 90) 127) (.R3 .none)) .nil) (.cons (.R7 (.R4 488 (.N9 90) 147) (.zO 36 (.N9 15) (.one 15) (.lst 36) (.R4 488 (.N9 90) 147) (.cons (.val (.R6 .tU (.R4 195 (.N9 15) 113) (.R4 195 (.qG 51) 113))) .nil))) .nil)) (.cons (.expr (.call (.R5 109 (.ref 523)) (.cons (.N9 90) .nil))) .nil))
noncomputable def Pz:Ss:=.cons (.R7 (.R4 488 (.N9 90) 36) (.zO 37 (.N9 44) (.one 44) (.lst 37) (.R4 488 (.N9 90) 36) (.cons (.val (.R6 .uO (.R4 195 (.xS (.N9 44) (.R3 (.int 0))) 86) (.R5 94 (.str 111)))) .nil))) (.cons (.Jr (.and (.cons (.lst 37 (.R4 488 (.N9 90) 36)) (.cons (.val (.call (.R5 185 (.ref 499)) (.cons (.N9 90) (.cons (.xS (.wZ 37 (.R4 488 (.N9 90) 36) (.R3 (.int 0))) (.R3 (.int 1))) .nil)))) .nil))) (.cons (.R7 (.F4 [(false,51),(false,166)]) (.Fi 37 (.R4 488 (.N9 90) 36))) (.cons (.expr (.call (.R5 134 (.ref 506)) (.cons (.N9 90) (.cons (.N9 51) (.cons (.N9 166) .nil))))) (.cons (.expr (.call (.R5 153 (.ref 206)) (.cons (.N9 51) (.cons (.R3 .none) (.cons (.R3 .none) .nil))))) .nil)))) .nil)
noncomputable def aV:Ss:=.cons (.R7 (.N9 26) (.call (.R5 170 (.ref 138)) (.cons (.oN 409 (.N9 151) 218 406 .nil) (.cons (.N9 102) (.cons (.N9 90) (.cons (.N9 9) (.cons (.N9 126) .nil))))))) (.cons (.R7 (.R4 138 (.N9 26) 248) (.R6 .uO (.N9 56) (.R3 (.str 30)))) (.cons (.ite (.and (.cons (.val (.R6 .fD (.N9 56) (.R3 .none))) (.cons (.val (.R6 .tU (.N9 56) (.R3 (.str 30)))) .nil))) (.cons (.R7 (.R4 138 (.N9 26) 162) (.call (.R5 208 (.ref 42)) (.cons (.R4 409 (.N9 151) 66) (.cons (.N9 56) .nil)))) .nil) .nil) (.cons (.R7 (.R4 195 (.N9 102) 26) (.N9 26)) (.cons (.R7 (.R4 195 (.N9 102) 99) (.R3 .none)) (.cons (.R7 (.R4 195 (.N9 102) 116) (.R3 .none)) (.cons (.ret (.N9 26)) .nil))))))
noncomputable def gZ:Ss:=.cons (.R7 (.N9 26) (.call (.R5 186 (.ref 530)) (.cons (.N9 151) (.cons (.N9 90) (.cons (.N9 102) (.cons (.N9 9) (.cons (.N9 126) (.cons (.N9 56) .nil)))))))) (.cons (.R7 (.R4 138 (.N9 26) 86) (.R5 98 (.str 121))) (.cons (.ret (.N9 26)) .nil))
noncomputable def pW:Ss:=.cons (.R7 (.N9 26) (.call (.R5 186 (.ref 530)) (.cons (.N9 151) (.cons (.N9 90) (.cons (.N9 102) (.cons (.N9 9) (.cons (.N9 126) (.cons (.N9 56) .nil)))))))) (.cons (.ite (.and (.cons (.val (.R6 .fD (.N9 56) (.R3 .none))) (.cons (.or (.cons (.val (.R6 .uO (.N9 56) (.R3 (.str 30)))) (.cons (.val (.R6 .le (.N9 56) (.R3 (.int 0)))) .nil))) .nil))) (.cons (.R7 (.R4 138 (.N9 26) 86) (.R5 22 (.str 43))) (.cons (.R7 (.R4 195 (.N9 102) 26) (.R3 .none)) (.cons (.R7 (.R4 195 (.N9 102) 99) (.ite (.val (.R6 .uO (.N9 56) (.R3 (.str 30)))) (.tup (.cons (.R3 (.str 148)) .nil)) (.tup (.cons (.R3 (.str 35)) .nil)))) .nil))) (.cons (.expr (.call (.R5 238 (.ref 551)) (.cons (.N9 26) .nil))) .nil)) .nil)
noncomputable def fH:Ss:=.cons (.expr (.call (.R5 204 (.ref 149)) (.cons (.R4 488 (.R4 138 (.N9 26) 124) 115) (.cons (.N9 26) .nil)))) (.cons (.R7 (.R4 195 (.R4 138 (.N9 26) 102) 86) (.R5 128 (.str 133))) (.cons (.R7 (.R4 195 (.R4 138 (.N9 26) 102) 57) (.ite (.val (.R4 138 (.N9 26) 137)) (.R3 .none) (.R4 138 (.N9 26) 162))) .nil))
noncomputable def rH:Ss:=.cons (.yM false 69 (.lst 40) (.R4 488 (.N9 90) 136) (.cons (.yM false 9 (.lst 9) (.call (.R5 193 (.ref 178)) (.cons (.R4 488 (.N9 90) 115) (.cons (.N9 69) .nil))) (.cons (.ite (.val (.call (.N9 139) (.cons (.N9 9) .nil))) (.cons (.R7 (.N9 26) (.call (.R5 202 (.ref 161)) (.cons (.R4 488 (.N9 90) 115) (.cons (.N9 9) .nil)))) (.cons (.expr (.call (.R5 217 (.ref 154)) (.cons (.R4 488 (.N9 90) 115) (.cons (.N9 26) .nil)))) (.cons (.R7 (.R4 138 (.N9 26) 86) (.R5 98 (.str 121))) (.cons (.R7 (.R4 195 (.R4 138 (.N9 26) 102) 86) (.R5 131 (.str 143))) (.cons (.R7 (.R4 195 (.R4 138 (.N9 26) 102) 57) (.R3 .none)) (.cons (.ret (.N9 26)) .nil)))))) .nil) .nil)) .nil)) (.cons (.ret (.R3 .none)) .nil)
noncomputable def bV:Ss:=.cons (.expr (.call (.R5 215 (.ref 213)) (.cons (.N9 26) (.cons (.N9 116) .nil)))) .nil
noncomputable def Qa:Ss:=.cons (.R7 (.N9 50) (.qA 41 (.N9 58) (.R3 (.str 50)))) (.cons (.Fo 41 (.N9 58) (.R3 (.str 50)) .add (.R3 (.int 1))) (.cons (.ite (.val (.R6 .lt (.N9 50) (.uX 42 (.qA 41 (.N9 58) (.R3 (.str 65)))))) (.cons (.ret (.bin .mod (.wZ 42 (.qA 41 (.N9 58) (.R3 (.str 65))) (.N9 50)) (.N9 39))) .nil) .nil) (.cons (.ret (.bin .mod (.ite (.val (.R6 .lt (.N9 50) .gG)) (.eR (.N9 50)) (.N9 50)) (.N9 39))) .nil)))
noncomputable def mV:Ss:=.cons (.R7 (.N9 18) (.qA 43 (.N9 82) (.N9 41))) (.cons (.ite (.val (.R6 .uO (.N9 18) (.R3 (.int 0)))) (.cons (.ret (.R3 (.bool false))) .nil) .nil) (.cons (.ite (.val (.R6 .uO (.N9 18) (.R3 (.int 3)))) (.cons (.ret (.R6 .gt (.qA 44 (.N9 145) (.N9 41)) (.R3 (.int 1)))) .nil) .nil) (.cons (.ret (.R6 .lt (.qA 44 (.N9 145) (.rQ (.N9 41))) (.N9 18))) .nil)))
noncomputable def mU:Ss:=.cons (.R7 (.N9 18) (.qA 43 (.N9 82) (.N9 41))) (.cons (.ite (.val (.R6 .uO (.N9 18) (.R3 (.int 0)))) (.cons (.ret (.R3 (.bool false))) .nil) .nil) (.cons (.ite (.val (.R6 .uO (.N9 18) (.R3 (.int 3)))) (.cons (.ret (.R6 .gt (.qA 45 (.N9 145) (.N9 41)) (.R3 (.int 1)))) .nil) .nil) (.cons (.ret (.R6 .lt (.qA 45 (.N9 145) (.rQ (.N9 41))) (.N9 18))) .nil)))
noncomputable def aU:Ss:=.cons (.R7 (.N9 45) (.list 46 .nil)) (.cons (.yM false 0 .dZ (.bin .add (.R3 (.int 1)) (.call (.R5 159 (.ref 574)) (.cons (.N9 58) (.cons (.R3 (.int 3)) .nil)))) (.cons (.R7 (.N9 18) (.call (.R5 159 (.ref 574)) (.cons (.N9 58) (.cons (.R3 (.int 6)) .nil)))) (.cons (.ite (.val (.R6 .lt (.N9 18) (.R3 (.int 4)))) (.cons (.R7 (.N9 41) (.Bv (.call (.R5 159 (.ref 574)) (.cons (.N9 58) (.cons (.R3 (.int 3)) .nil))))) (.cons (.expr (.append 46 (.N9 45) (.tup (.cons (.R3 (.str 26)) (.cons (.N9 41) (.cons (.xS (.tup (.cons (.R3 .none) (.cons (.R3 (.int 2)) (.cons (.R3 (.int 4)) (.cons (.R3 (.int 0)) (.cons (.R3 (.str 30)) .nil)))))) (.call (.R5 159 (.ref 574)) (.cons (.N9 58) (.cons (.R3 (.int 5)) .nil)))) .nil)))))) .nil)) (.cons (.ite (.val (.R6 .uO (.N9 18) (.R3 (.int 4)))) (.cons (.expr (.append 46 (.N9 45) (.tup (.cons (.R3 (.str 84)) (.cons (.call (.R5 159 (.ref 574)) (.cons (.N9 58) (.cons (.R3 (.int 4)) .nil))) .nil))))) .nil) (.cons (.expr (.append 46 (.N9 45) (.tup (.cons (.R3 (.str 63)) (.cons (.call (.R5 159 (.ref 574)) (.cons (.N9 58) (.cons (.N9 49) .nil))) .nil))))) .nil)) .nil)) .nil))) (.cons (.ret (.N9 45)) .nil))
noncomputable def rM:Ss:=.cons (.ret (.eH 44 41 (.call (.R5 214 (.ref 168)) (.cons (.R4 488 (.qG 90) 115) (.cons (.tup (.cons (.N9 41) (.cons (.R3 .none) .nil))) .nil))) (.R3 (.str 6)))) .nil
noncomputable def aK:Ss:=.cons (.R7 (.N9 9) (.tup (.cons (.xS (.N9 17) (.R3 (.int 1))) (.cons (.R3 .none) .nil)))) (.cons (.expr (.call (.R5 161 (.ref 513)) (.cons (.N9 90) (.cons (.N9 51) (.cons (.R3 (.bool true)) .nil))))) (.cons (.ite (.val (.call (.R5 196 (.ref 581)) (.cons (.N9 82) (.cons (.xS (.N9 17) (.R3 (.int 1))) (.cons (.call (.R5 211 (.ref 593)) (.cons (.N9 90) .nil)) .nil))))) (.cons (.expr (.append 47 (.N9 54) (.bin .sub (.R4 195 (.N9 51) 113) (.R3 (.int 1))))) (.cons (.expr (.call (.R5 201 (.ref 565)) (.cons (.call (.R5 246 (.ref 537)) (.cons (.N9 151) (.cons (.N9 90) (.cons (.N9 51) (.cons (.N9 9) (.cons (.list 48 .nil) (.cons (.xS (.N9 17) (.R3 (.int 2))) .nil))))))) (.cons (.R3 .none) .nil)))) .nil)) (.cons (.expr (.call (.R5 252 (.ref 544)) (.cons (.N9 151) (.cons (.N9 90) (.cons (.N9 51) (.cons (.N9 9) (.cons (.list 48 .nil) (.cons (.xS (.N9 17) (.R3 (.int 2))) .nil)))))))) .nil)) (.cons (.expr (.call (.R5 212 (.ref 600)) (.cons (.N9 90) (.cons (.N9 82) (.cons (.N9 54) .nil))))) (.cons (.expr (.call (.R5 184 (.ref 518)) (.cons (.N9 90) (.cons (.N9 51) .nil)))) .nil))))
noncomputable def aL:Ss:=.cons (.R7 (.wZ 52 (.qA 49 (.N9 25) (.R3 (.str 86))) (.N9 19)) (.R3 (.str 81))) (.cons (.R7 (.wZ 53 (.qA 49 (.N9 25) (.R3 (.str 92))) (.N9 19)) (.R3 .none)) (.cons (.R7 (.wZ 54 (.qA 49 (.N9 25) (.R3 (.str 99))) (.N9 19)) (.N9 99)) .nil))
noncomputable def pX:Ss:=.cons (.Jr (.val (.R3 (.bool true))) (.cons (.R7 (.qG 145) (.call (.R5 223 (.ref 612)) (.cons (.N9 25) .nil))) (.cons (.R7 (.qG 76) (.zO 55 (.N9 41) (.one 41) .chars (.R3 (.str 6)) (.cons (.and (.cons (.val (.R6 .gt (.qA 45 (.qG 145) (.N9 41)) (.R3 (.int 0)))) (.cons (.val (.call (.R5 196 (.ref 581)) (.cons (.qG 82) (.cons (.N9 41) (.cons (.qG 145) .nil))))) .nil))) .nil))) (.cons (.ite (.val (.R6 (.iU 55 56) (.qG 76) (.list 56 .nil))) (.cons .Ke .nil) .nil) (.cons (.R7 (.N9 19) (.wZ 57 (.zO 57 (.N9 15) (.tup [15,79]) (.lst 50) (.qA 49 (.N9 25) (.R3 (.str 23))) (.cons (.val (.R6 .uO (.N9 79) (.wZ 55 (.qG 76) (.R3 (.int 0))))) .nil)) (.R3 (.int 0)))) (.cons (.expr (.remove 50 (.qA 49 (.N9 25) (.R3 (.str 23))) (.tup (.cons (.N9 19) (.cons (.wZ 55 (.qG 76) (.R3 (.int 0))) .nil))))) (.cons (.expr (.append 58 (.qA 49 (.N9 25) (.R3 (.str 54))) (.N9 19))) (.cons (.expr (.call (.R5 174 (.ref 619)) (.cons (.N9 25) (.cons (.N9 19) (.cons (.tup (.cons (.R3 (.str 101)) .nil)) .nil))))) .nil)))))))) .nil
noncomputable def fM:Ss:=.cons (.R7 (.F4 [(false,59),(false,41),(false,56)]) (.N9 17)) (.cons (.ite (.val (.call (.R5 196 (.ref 581)) (.cons (.N9 82) (.cons (.N9 41) (.cons (.call (.R5 223 (.ref 612)) (.cons (.N9 25) .nil)) .nil))))) (.cons (.expr (.append 58 (.qA 49 (.N9 25) (.R3 (.str 54))) (.N9 19))) (.cons (.R7 (.wZ 54 (.qA 49 (.N9 25) (.R3 (.str 99))) (.N9 19)) (.tup (.cons (.R3 (.str 101)) .nil))) .nil)) (.cons (.ite (.or (.cons (.val (.R6 .uO (.N9 56) (.R3 (.int 0)))) (.cons (.val (.R6 .uO (.N9 56) (.R3 (.str 30)))) .nil))) (.cons (.R7 (.wZ 54 (.qA 49 (.N9 25) (.R3 (.str 99))) (.N9 19)) (.ite (.val (.R6 .uO (.N9 56) (.R3 (.int 0)))) (.tup (.cons (.R3 (.str 35)) .nil)) (.tup (.cons (.R3 (.str 148)) .nil)))) .nil) (.cons (.expr (.append 50 (.qA 49 (.N9 25) (.R3 (.str 23))) (.tup (.cons (.N9 19) (.cons (.N9 41) .nil))))) (.cons (.R7 (.wZ 52 (.qA 49 (.N9 25) (.R3 (.str 86))) (.N9 19)) (.R3 (.str 23))) (.cons (.R7 (.wZ 53 (.qA 49 (.N9 25) (.R3 (.str 92))) (.N9 19)) (.ite (.val (.R6 .By (.N9 56) (.R3 .none))) (.R3 .none) (.bin .add (.qA 49 (.N9 25) (.R3 (.str 53))) (.N9 56)))) (.cons (.R7 (.wZ 54 (.qA 49 (.N9 25) (.R3 (.str 99))) (.N9 19)) (.R3 .none)) .nil))))) .nil)) (.cons (.expr (.call (.R5 250 (.ref 624)) (.cons (.N9 25) (.cons (.N9 82) .nil)))) .nil))
noncomputable def pY:Ss:=.cons (.Jr (.val (.R3 (.bool true))) (.cons (.yM true 19 .dZ (.uX 52 (.qA 49 (.qG 25) (.R3 (.str 86)))) (.cons (.ite (.val (.wZ 59 (.qA 49 (.qG 25) (.R3 (.str 48))) (.qG 19))) (.cons (.R7 (.wZ 52 (.qA 49 (.qG 25) (.R3 (.str 86))) (.qG 19)) (.R3 (.str 32))) (.cons (.R7 (.wZ 53 (.qA 49 (.qG 25) (.R3 (.str 92))) (.qG 19)) (.R3 .none)) (.cons (.R7 (.qA 49 (.qG 25) (.R3 (.str 23))) (.zO 50 (.N9 44) (.one 44) (.lst 50) (.qA 49 (.qG 25) (.R3 (.str 23))) (.cons (.val (.R6 .tU (.xS (.N9 44) (.R3 (.int 0))) (.qG 19))) .nil))) .nil))) .nil) .nil)) (.cons (.expr (.call (.R5 250 (.ref 624)) (.cons (.qG 25) (.cons (.N9 82) .nil)))) (.cons (.R7 (.N9 81) (.zO 60 (.N9 4) (.one 4) .dZ (.uX 52 (.qA 49 (.qG 25) (.R3 (.str 86)))) (.cons (.val (.R6 .uO (.wZ 52 (.qA 49 (.qG 25) (.R3 (.str 86))) (.N9 4)) (.R3 (.str 81)))) .nil))) (.cons (.ite (.val (.R6 (.Ay 60 61) (.N9 81) (.list 61 .nil))) (.cons (.ret (.N9 81)) .nil) .nil) (.cons (.ite (.val (.R6 (.iU 62 61) (.zO 62 (.N9 40) (.one 40) (.lst 52) (.qA 49 (.qG 25) (.R3 (.str 86))) (.cons (.val (.R6 .tU (.N9 40) (.R3 (.str 32)))) .nil)) (.list 61 .nil))) (.cons (.ret (.R3 (.str 43))) .nil) .nil) (.cons (.R7 (.N9 31) (.zO 63 (.N9 53) (.one 53) (.lst 53) (.qA 49 (.qG 25) (.R3 (.str 92))) (.cons (.val (.R6 .fD (.N9 53) (.R3 .none))) .nil))) (.cons (.ite (.val (.R6 (.iU 63 61) (.N9 31) (.list 61 .nil))) (.cons (.ret (.R3 (.str 88))) .nil) .nil) (.cons (.R7 (.qA 49 (.qG 25) (.R3 (.str 53))) (.max2 (.qA 49 (.qG 25) (.R3 (.str 53))) (.Jn 63 (.N9 31)))) (.cons (.yM true 19 .dZ (.uX 52 (.qA 49 (.qG 25) (.R3 (.str 86)))) (.cons (.ite (.and (.cons (.val (.R6 .fD (.wZ 53 (.qA 49 (.qG 25) (.R3 (.str 92))) (.qG 19)) (.R3 .none))) (.cons (.val (.R6 .le (.wZ 53 (.qA 49 (.qG 25) (.R3 (.str 92))) (.qG 19)) (.qA 49 (.qG 25) (.R3 (.str 53))))) .nil))) (.cons (.expr (.call (.R5 174 (.ref 619)) (.cons (.qG 25) (.cons (.qG 19) (.cons (.ite (.val (.R6 .uO (.wZ 52 (.qA 49 (.qG 25) (.R3 (.str 86))) (.qG 19)) (.R3 (.str 23)))) (.tup (.cons (.R3 (.str 35)) .nil)) (.R3 .none)) .nil))))) (.cons (.R7 (.qA 49 (.qG 25) (.R3 (.str 23))) (.zO 50 (.N9 44) (.one 44) (.lst 50) (.qA 49 (.qG 25) (.R3 (.str 23))) (.cons (.val (.R6 .tU (.xS (.N9 44) (.R3 (.int 0))) (.qG 19))) .nil))) .nil)) .nil) .nil)) .nil)))))))))) .nil
noncomputable def aP:Ss:=.cons (.R7 (.N9 51) (.wZ 19 (.N9 125) (.N9 19))) (.cons (.ite (.or (.cons (.val (.R6 .fD (.R4 195 (.N9 51) 116) (.R3 .none))) (.cons (.val (.R6 .neT (.R4 195 (.N9 51) 99) (.wZ 54 (.qA 49 (.N9 25) (.R3 (.str 99))) (.N9 19)))) .nil))) (.cons (.ret (.R3 (.bool false))) .nil) .nil) (.cons (.ite (.val (.R6 (.iU 46 64) (.N9 45) (.list 64 .nil))) (.cons (.expr (.call (.R5 233 (.ref 316)) (.cons (.N9 51) .nil))) (.cons (.R7 (.wZ 52 (.qA 49 (.N9 25) (.R3 (.str 86))) (.N9 19)) (.R3 (.str 32))) (.cons (.ret (.R3 (.bool true))) .nil))) .nil) (.cons (.R7 (.N9 17) (.Fi 46 (.N9 45))) (.cons (.ite (.val (.R6 .uO (.xS (.N9 17) (.R3 (.int 0))) (.R3 (.str 63)))) (.cons (.expr (.call (.R5 236 (.ref 323)) (.cons (.wZ 19 (.N9 125) (.xS (.N9 17) (.R3 (.int 1)))) .nil))) (.cons (.R7 (.wZ 59 (.qA 49 (.N9 25) (.R3 (.str 48))) (.xS (.N9 17) (.R3 (.int 1)))) (.R3 (.bool true))) .nil)) (.cons (.ite (.val (.R6 .uO (.xS (.N9 17) (.R3 (.int 0))) (.R3 (.str 26)))) (.cons (.expr (.call (.R5 173 (.ref 607)) (.cons (.N9 151) (.cons (.N9 90) (.cons (.N9 51) (.cons (.N9 82) (.cons (.N9 54) (.cons (.N9 17) .nil)))))))) (.cons (.expr (.call (.R5 230 (.ref 631)) (.cons (.N9 25) (.cons (.N9 82) (.cons (.N9 19) (.cons (.N9 17) .nil)))))) .nil)) (.cons (.expr (.call (.R5 198 (.ref 241)) (.cons (.N9 151) (.cons (.N9 51) (.cons (.xS (.N9 17) (.R3 (.int 1))) .nil))))) (.cons (.R7 (.wZ 54 (.qA 49 (.N9 25) (.R3 (.str 99))) (.N9 19)) (.R3 .none)) (.cons (.ite (.val (.R6 .gt (.xS (.N9 17) (.R3 (.int 1))) (.R3 (.int 0)))) (.cons (.R7 (.wZ 52 (.qA 49 (.N9 25) (.R3 (.str 86))) (.N9 19)) (.R3 (.str 122))) (.cons (.R7 (.wZ 53 (.qA 49 (.N9 25) (.R3 (.str 92))) (.N9 19)) (.bin .add (.qA 49 (.N9 25) (.R3 (.str 53))) (.xS (.N9 17) (.R3 (.int 1))))) .nil)) .nil) .nil)))) .nil)) (.cons (.ret (.and (.cons (.R6 (.iU 47 58) (.N9 54) (.qA 49 (.N9 25) (.R3 (.str 54)))) (.cons (.R6 (.F3 44 45) (.call (.R5 211 (.ref 593)) (.cons (.N9 90) .nil)) (.call (.R5 223 (.ref 612)) (.cons (.N9 25) .nil))) .nil)))) .nil)))))
section
open PySem.Calls PySem.Spec
section
set_option maxHeartbeats 1000000
noncomputable def Vh(k:Nat)(e:Expr):Bool:=vT e λx _=>sE x (nm k)
theorem x8(h:Vh k e=true):∃p,e=.Name (nm k) p:=by
 refine yX (lW h) λx p a q=>?_;subst a;exact⟨p,qX (Jp q) rfl⟩
@[elab_as_elim] theorem Pw{P:Expr->Prop}(h:Vh k e=true)(q:∀p,P (.Name (nm k) p)):P e:=by
 refine zH (x8 h) λp a=>?_;subst a;exact q p
noncomputable def x9(K:Frag)(f:Addr)(ps:List (Bool×Nat))(c:List Nat)(t:Nat)(v it:X):Bool:=nO K f λfd b=>dK K ps c fd&&wC b λs=>sQ s λr _=>pB r λe=>Ea e λk g h a _=>Xd h λi iter d=>d.isEmpty&&
 Vh t k&&Vh t i&&Qu fd.scope.names a t&&kQ (jJ fd.scope.names a.names) (nm t) .cell&&yY iter&&yJ K v (jJ fd.scope.names a.names) g&&yJ K it fd.scope.names iter
theorem Cl{Z:Ctx}{n:Nat}{H:St}(z:Z.hd=none)(O:Z.Ok){f:Addr}{ps:List (Bool×Nat)}{i:List Nat}{t tg:Nat}{v it:X}{as:List AV}{Q:AV->St->Prop}(M:x9 Z.K f ps i t v it=true)(p:ps.length=as.length)
  (w:wFn Z n ps i (.cons (.ret (.sX tg t v it)) .nil) as Q H):qB Z (n+1) f as H Q qM:=by
 refine Re (W:=λF m b H'=>O6 Z n F qM (.cons (.ret (.sX tg t v it)) .nil) m b H') O M p (λfd K N F m b H' g A P=>?_) w;refine jZ g λs g=>tR g λr rp B=>dU B λe D=>Of D λk vx gs E pos G=>Rm G λR iter T h=>xJ h λh U=>Qg h λY k1 k2 h5 I h7 h8=>jD Y (Pw k1 λkp=>Pw k2 λtp=>?_);have S:=Bi h5;have I:=Jg I;have w3:wE Z n F qM it m (λu d=>eS .chars u d ((λ(d:St)(L:List AV)(J:St->Prop)=>L.length<1000∧∀c,qD d c->xB J (λx b H'=>T9 (H'.qG t c) λ_=>T9 ((H'.qU t c (some x)).qG t c) λo=>T9 o λx'=>T9 (sr x') λk=>wE Z n (λj=>if j=t then some c else F j) qM v (λ_=>none) (λy H3=>b (some (k,y)) H3) (H'.qU t c (some x))) L []
  (λeZ H'=>∀l,qD H' l->b (.ret (.ref l)) m (H'.xV tg l (vC eZ))) (d.qU t c none)) d)) H':=P
 have hS:=nP (lc:=some (N.locals,m)) (x:=it) (ik:=.chars) z O A U (λo w2=>yH z O it o A w2) w3;have hG:=Ia (tag:=tg) (Q:=λa d=>b (.ret a) m d) (V:=λc b H'=>wE Z n (λj=>if j=t then some c else F j) qM v (λ_=>none) b H') (kp:=kp) (tp:=tp) (pos:=pos) z O A S I h7 (λC c b H' w2=>yH z O v h8 (Yp A S C c) w2) hS;exact yK (Iq (hG.qq λv d q=>q.elim λa q=>qZ a q.1 q.2))
noncomputable def vE:X:=.uX 51 (.zO 51 (.R3 (.int 1)) (.tup [19,79]) (.lst 50) (.qA 49 (.qG 25) (.R3 (.str 23))) (.cons (.val (.R6 .uO (.N9 79) (.qG 41))) .nil))
noncomputable def j4:Ss:=.cons (.ret (.sX 45 41 vE (.R3 (.str 6)))) .nil
end
noncomputable def lF(K:Frag)(C f:Addr):Bool:=makesIn K C&&(qP1 K (.ref C) "__init__"==some (some (.ref f)))&&(typeIn K (.ref f)==some (.type "function"))&&qH1 K (.ref C)
theorem Px{Z:Ctx}{n:Nat}{H:St}(O:Z.Ok){C:Nat}{f:Addr}{as:List AV}{Q:AV->St->Prop}(nA:lF Z.K C f=true)
  (w:∀x,qD H x->tC Z (n+1) f (.ref x::as) (H.qL C x λ_=>none) (λa H'=>a=.none∧Q (.ref x) H') qM):qB Z (n+2) C as H Q qM:=by
 refine qK (qO nA) λnA y=>qK (qO nA) λnA z=>qK (qO nA) λhm B=>?_;have z:=beq_iff_eq.mp z;have B:=beq_iff_eq.mp B;refine⟨.inl y,λD iv A E Qc l s F hF m hl kq kx=>?_⟩;have X:=O.X.keeps m.old;obtain⟨h,g,d,tk,os⟩:=s;refine qV1 (make_core (makes_of X hm) (qY6 X B) (λp=>bind_fn X p z) (.inl rfl) ?_);refine jL (m.free O (Nat.le_refl h.objs.size)) λG R zD I=>jL (m.free O (Nat.le_succ h.objs.size)) λJ t zx K=>?_;have S:∀b o,h.get? b=some o->((h.push emptyDict).push (qK7 C h.objs.size)).get? b=some o:=λb o e=>S7 _ (S7 _ e);have T:((h.push emptyDict).push (qK7 C h.objs.size)).get? h.objs.size=some emptyDict:=S7 _ (B3 _ rfl);have U:((h.push emptyDict).push (qK7 C h.objs.size)).get? (h.objs.size+1)=some (qK7 C h.objs.size):=by
  have:=B3 (h.push emptyDict) (o:=qK7 C h.objs.size) rfl;rw[qW3] at this;exact this
 refine qK (m.more (tk:=tk) S) λV f1=>?_;have u:h.objs.size≠h.objs.size+1:=by exact Nat.ne_of_lt (Nat.le_refl (Nat.succ (qA4 (PySem.Heap.objs h))))
 have W:=V.adopt (H':=H) (c:=.dat (h.objs.size+1) []) R zD I (uS (jN _ _ _ T rfl)) (qZ ([]) (cM _ _ _ T ⟨rfl,rfl,rfl⟩ rfl (λe he=>by simp at he) .nil (by simp)) .nil) (V.view.fresh R);have Y:wM l h.objs.size (.dat (h.objs.size+1) []) (h.objs.size+1)=none:=qX (zM u.symm) t;have r3:=W.adopt (H':=H.qL C (h.objs.size+1) (zE [])) (c:=.obj C h.objs.size) Y zx K (by
  intro q y1;refine Tb y1 λc' oc D tt e' g2 g3 g4=>?_;cases e';have:=U.symm.trans g2;cases this;cases g3) U ((W.view.fresh Y).addObj (zG ..) (qX (zM u) (zG ..)))
 have i:∀a,h.get? a=none->dJ l h a:=λa ha o e=>by rw[ha] at e;cases e
 have f3:yL l h (wM (wM l h.objs.size (.dat (h.objs.size+1) [])) (h.objs.size+1) (.obj C h.objs.size)) ((h.push emptyDict).push (qK7 C h.objs.size)):=λb o e k=>by
  refine⟨S b o e,?_⟩;refine qX (zM (by rintro rfl;exact i _ J o e k)) (qX (zM (by rintro rfl;exact i _ G o e k)) ?_);exact k
 have w':=w (h.objs.size+1) (xL m.view t);have eM:(λ_=>none:M)=zE []:=by funext k;rfl
 rw[eM] at w';have L:uW Z (A.under (.builtin "type.__call__" ⟨.ref C::D,[]⟩)) (n+1):=by
  refine⟨?_,?_,F.hd⟩
  ·have:=F.depth;show A.depth+1+2*(n+1)+2≤900;lia
  ·have:=F.units;show A.units+1+40*(n+1)+100≤9000;lia
 have N:mA Z (wM (wM l h.objs.size (.dat (h.objs.size+1) [])) (h.objs.size+1) (.obj C h.objs.size)) (A.under (.builtin "type.__call__" ⟨.ref C::D,[]⟩)) ((h.push emptyDict).push (qK7 C h.objs.size)):=by
  obtain⟨j,q,r⟩:=hF.pT f3;exact⟨j,q,r⟩
 refine w' _ (.cons (.ref _) iv) _ _ _ _ L N r3 (λv s' P H' r f q=>?_) (λ_ _ _ _ _ _ q=>q.elim);obtain⟨a,ia,rfl,q⟩:=q;obtain rfl:=ia.of_none;exact⟨rfl,kq _ s' P H' r (f3.trans f) (qZ _ (.ref _) q)⟩
theorem kO{Z:Ctx}{n:Nat}{H:St}(e:Z.hd=none)(O:Z.Ok){C:Nat}{f:Addr}{ps:List (Bool×Nat)}{c:List Nat}{b:Ss}{as:List AV}{Q:AV->St->Prop}(nA:lF Z.K C f=true)(g:qH Z.K f ps c b=true)(d:ps.length=as.length+1)
  (w:∀x,qD H x->wFn Z n ps c b (.ref x::as) (λa H'=>a=.none∧Q (.ref x) H') (H.qL C x λ_=>none)):qB Z (n+2) C as H Q qM:=by
 exact Px O nA λx h=>dL (W:=λF m i H'=>O6 Z n F qM b m i H') O g d (λ_ _ _ _ _ _ _ j k l=>Qd e O k b j l) (w x h)
noncomputable def Mj(K:Frag)(c:Nat)(ps a:List Nat)(b:Ss):Bool:=pB (uR K c) λd=>Vy d ps a&&Ql K d.scope.names b d.body
theorem sH{Z:Ctx}{n:Nat}{H:St}(l:Z.hd=none)(O:Z.Ok){f:Addr}{c:Nat}{h:List (Nat×Addr)}{ps a:List Nat}{b:Ss}{as:List AV}{Q:AV->St->Prop}(o:Mj Z.K c ps a b=true)(j:H.fn c f=some h)(g:h.map (·.1)=a)(e:ps.length=as.length)
  (w:O6 Z n (λk=>h.lookup k) qM b (ups (λ_=>none) ps as) (lP Q) H):qB Z (n+1) f as H Q qM:=by
 refine qY (sZ o) λd p i=>qK (qO i) λq r=>?_;exact zY5 O j p (Yl q) g e (λu F m v x s t=>Qd l O s b r t) w
noncomputable def zS1(s:Stmt)(f:FD->Str->Bool):Bool:=if h:s.ctorIdx=0 then Stmt.FunctionDef.elim (motive_2:=λ_=>Bool) s h (λn a b dl c d e g i p=>dl.isEmpty&&c.isNone&&d.isEmpty&&g.isNone&&sE i n&&f ⟨a,b,e,p⟩ n) else false
@[elab_as_elim] theorem zP3{P:Stmt->Prop}(h:zS1 s f=true)(k:∀d n,f d n=true->P (.FunctionDef n d.params d.body [] none [] d.scope none n d.pos)):P s:=
 Ow h λq g=>Stmt.FunctionDef.elim (motive_2:=λs=>∀h:s.ctorIdx=0,Stmt.FunctionDef.elim (motive_2:=λ_=>Bool) s h (λn a b dl j l i m o p=>dl.isEmpty&&j.isNone&&l.isEmpty&&m.isNone&&sE o n&&f ⟨a,b,i,p⟩ n)=true->P s) s q
  (λn a b dl j l i m o p _ g=>Ln (a:=dl.isEmpty) (b:=j.isNone) (c:=l.isEmpty) (d:=m.isNone) (e:=sE o n) (f:=f ⟨a,b,i,p⟩ n) g λg r t u v w=>jD g (jD t (Lr v ((E4.mp r).symm▸(E4.mp u).symm▸k ⟨a,b,i,p⟩ n w)))) q g
noncomputable def mK(e:List (Str×NameKind))(c:Nat)(b:List Nat)(q:Str)(s:Stmt):Bool:=zS1 s λd n=>sE n (nm c)&&Nat.blt c NN&&kQ e (nm c) .local&&d.params.defaults.isEmpty&&d.params.kw_defaults.isEmpty&&d.params.posonlyargs.isEmpty&&d.params.kwonlyargs.isEmpty&&d.params.vararg.isNone&&d.params.kwarg.isNone&&
 (d.params.args.all λa=>a.annotation.isNone)&&((d.scope.names.filter λx=>x.2==.free).reverse.map (·.1)==b.map nm)&&(b.all λk=>Nat.blt k NN&&(kQ e (nm k) .cell||kQ e (nm k) .free))&&sE (q++".<locals>."++nm c) (pL c)
structure j5(ks:List (Str×NameKind))(c:Nat)(cks:List Nat)(q:Str)(d:FD):Prop where
 lt:c<NN
 N9:ks.lookup (nm c)=some .local
 h1:d.params.defaults=[]
 h2:d.params.kw_defaults=[]
 h3:∀eV,annTrees d.params none eV=[]
 h4:(d.scope.names.filter λx=>x.2==.free).reverse.map (·.1)=cks.map nm
 hk:∀k∈cks,k<NN∧(ks.lookup (nm k)=some .cell∨ks.lookup (nm k)=some .free)
 hq:q++".<locals>."++nm c=pL c
theorem j6(h:(l.all λa=>a.annotation.isNone)=true):annotationsOf l eV=[]:=by
 induction l with
 |nil=>rfl
 |cons a r b=>
  obtain⟨x,a,p⟩:=a;replace h:=qH7▸h;refine qK (qO h) λc d=>?_;cases a with
  |none=>exact b d
  |some a=>cases c
theorem zU1(d:p.posonlyargs.isEmpty=true)(e:p.kwonlyargs.isEmpty=true)(c:p.vararg.isNone=true)(f:p.kwarg.isNone=true)(b:(p.args.all λa=>a.annotation.isNone)=true):annTrees p none eV=[]:=by
 obtain⟨h,g,i,j,kd,k,l⟩:=p;obtain rfl:=E6.mp d;obtain rfl:=E6.mp e;obtain rfl:=E4.mp c;obtain rfl:=E4.mp f;show annotationsOf (g++[]++[]++[]++[]) eV++[]=[];rw[E7,E7,E7,E7,E7];exact j6 b
@[elab_as_elim] theorem Py{j:List (Str×NameKind)}{a:List Nat}{P:Stmt->Prop}(h:mK j c a q s=true)(k:∀d,j5 j c a q d->P (.FunctionDef (nm c) d.params d.body [] none [] d.scope none (nm c) d.pos)):P s:=
 zP3 h λd n b=>Qg b λb l m e f g i=>Qg b λo p r t u v w=>Lr o (k d ⟨oY p,Jg r,E6.mp t,E6.mp u,λA=>zU1 v w l m e,beq_iff_eq.mp f,
  λk x=>xJ (D5.mp g k x) λy z=>⟨oY y,((Bool.or_eq_true ..).mp z).imp Jg Jg⟩,Jp i⟩)
theorem j7(O:Z.Ok)(h:zV eV F ks){c:Nat}{e:List Nat}{t g:Addr}{d:FD}{q:Str}{Q:Fl->M->St->Prop}(D:j5 ks c e q d)(i:uR Z.K c=some d)(b:eV.qual=q++".<locals>.")(a:eV.code=.ref g)(C:zQ8 Z.h₀ g t)(w:wS Z n F qM (.Bk c e t) m Q H):
  qF Z n eV.locals m (exec (.FunctionDef (nm c) d.params d.body [] none [] d.scope none (nm c) d.pos) eV) H (FQ Q) qM:=by
 obtain⟨l,j,k,f,w⟩:=w;refine zI2 O h i D.lt D.N9 rfl D.h1 D.h2 (D.h3 eV) D.h4 D.hk ?_ a C j f w;unfold qualnameIn;have:eV.kindOf (nm c)=some .local:=by unfold qX9;exact qX h.names D.N9
 refine qX (this) (qX (D9 (by decide)) (qX (b) ?_));exact D.hq
noncomputable def qO2(v:Value)(a:Addr):Bool:=v==.ref a
theorem Ri(h:qO2 v a=true):v=.ref a:=beq_iff_eq.mp h
noncomputable def mP:Ss:=.cons (.ret (.call (.R5 196 (.ref 581)) (.cons (.qG 82) (.cons (.xS (.N9 9) (.R3 (.int 0))) (.cons (.call (.R5 211 (.ref 593)) (.cons (.qG 90) .nil)) .nil))))) .nil
noncomputable def rN:Ss:=.cons (.expr (.append 65 (.qG 46) (.zO 66 (.bin .sub (.R4 195 (.N9 51) 113) (.R3 (.int 1))) (.one 51) (.lst 32) (.N9 81) .nil))) (.cons (.ret (.wZ 32 (.N9 81) (.call (.R5 159 (.ref 574)) (.cons (.qG 58) (.cons (.uX 32 (.N9 81)) .nil))))) .nil)
noncomputable def bU:Ss:=.cons (.expr (.call (.R5 212 (.ref 600)) (.cons (.N9 77) (.cons (.qG 82) (.cons (.qG 54) .nil))))) .nil
noncomputable def uG:Ss:=.cons (.R7 (.N9 26) (.call (.R5 219 (.ref 558)) (.cons (.qG 90) (.cons (.N9 222) .nil)))) (.cons (.Jr (.val (.R6 .fD (.N9 26) (.R3 .none))) (.cons (.expr (.append 47 (.N9 54) (.bin .sub (.R4 195 (.R4 138 (.N9 26) 102) 113) (.R3 (.int 1))))) (.cons (.expr (.call (.R5 201 (.ref 565)) (.cons (.N9 26) (.cons (.R3 .none) .nil)))) (.cons (.R7 (.N9 26) (.call (.R5 219 (.ref 558)) (.cons (.qG 90) (.cons (.N9 222) .nil)))) .nil)))) .nil)
noncomputable def zZ2:Ss:=.cons (.Bk 222 [90,82] 595) uG
noncomputable def j8(K:Frag)(f:Addr)(ps:List (Bool×Nat))(b:List Nat)(c:Nat)(d:List Nat)(e:Addr)(r:Ss):Bool:=nO K f λfd a=>dK K ps b fd&&(yR a λs l=>mK fd.scope.names c d fd.qualname s&&qO2 fd.code e&&Ql K fd.scope.names r l)
theorem Pj{b:List (Str×NameKind)}{a:List Nat}(h:mK b c a q s=true):∃d,s=.FunctionDef (nm c) d.params d.body [] none [] d.scope none (nm c) d.pos∧j5 b c a q d:=Py h λd D=>qZ d rfl D
theorem j9{K:Frag}{d:FD}{fd:qZ6}(b:K.lookup f=some ⟨oc,od,.func fd,sl⟩)(a:fd.body=.stmts (.FunctionDef (nm c) d.params d.body [] none [] d.scope none (nm c) d.pos::l)):eU K f (nm c)=some d:=by
 unfold eU;refine qX (b) ?_;dsimp only;refine qX (a) ?_;exact A3 (beq_self_eq_true _)
theorem Cp{Z:Ctx}{n:Nat}{H:St}(z:Z.hd=none)(O:Z.Ok){f k t:Addr}{ps:List (Bool×Nat)}{b:List Nat}{c:Nat}{o:List Nat}{r:Ss}{as:List AV}{Q:AV->St->Prop}(A:j8 Z.K f ps b c o k r=true)(g:uR Z.K c=eU Z.K f (nm c))(C:zQ8 Z.h₀ k t)(e:ps.length=as.length)
  (w:wFn Z n ps b (.cons (.Bk c o t) r) as Q H):qB Z (n+1) f as H Q qM:=by
 refine iN A λS T fd U p u x B E G h=>?_;refine yX (vB h) λs l i j=>?_;subst i;refine vG j λI J K=>?_;refine qY (Pj I) λd i D=>?_;subst i;have L:=g.trans (j9 u x);refine zY0 O u x B E G e (λV F m W X y M N P=>?_) w;refine yK ((j7 O y D L N (M.trans (Ri J)) C P).qq λR Y H1 q=>?_);cases R with
 |next=>exact Qd z O y r K q
 |ret v=>exact q.elim λa q=>qZ a q.1 q.2
 |_=>exact q
section
variable{prog:Program}{w:qQ2}{A:O3}{E:Value->S8->Prop}{h:Heap}{g:Array zH2}{d:Drawn}{t:Nat}{os:qF9}
variable{nm q:Str}{C N f:Addr}{bs bm bmB:List Value}{hdct:Bool}{sn:List Str}{sub:List Value}{ab:Bool}{col:Option Bool}{dd:Option Addr}{k0 k1 k2 k3 k5:Option Value}{B newId initId:String}
structure v4(B:String)(bm:List Value):Prop where
 hB:bm.contains (.type B)=true
 hA:bm.contains (.type "AttributeError")=false
 hN:bm.contains (.type "NameError")=false
theorem zJ5(F:qH4 B newId initId bmB)(T:v4 B bm){a:Model}{rest:List Value}{Q:Unit->S8->Prop}(c:h.get? C=some (qG3 nm q C N bs bm hdct sn sub ab col dd k0 k1 k2 k3 k5 newId))
  (b:Q () ⟨h,g,d,t,os⟩):D8 a A (qB7 newId ⟨.ref C::rest,[]⟩) Q E ⟨h,g,d,t,os⟩:=wpAny_check_new_subU F T.hB .base c b
theorem v6(F:qH4 B newId initId bmB)(T:v4 B bm){R:qL4->S8->Prop}{rest:List Value}(hC:h.get? C=some (qG3 nm q C N bs bm hdct sn sub ab col dd k0 k1 k2 k3 k5 newId))
  (hq:R (.ok (.ret (.ref (h.objs.size+1)))) ⟨(h.push {cls:=.type "tuple",data:=.seq rest.toArray}).push
   {cls:=.ref C,data:=.fields #[.ref h.objs.size,.none,.none,.none,.bool false,.none]},g,d,t,os⟩) (hrest:rest.length≤sizeLine):
  qW6 (model prog w) A (.builtin newId ⟨.ref C::rest,[]⟩) R ⟨h,g,d,t,os⟩:=by
 have hends:=F.ends;have hcB:(Value.ref C::bm).contains (.type B)=true:=by rw[qV6,T.hB,Bool.or_true]
 have hcA:(Value.ref C::bm).contains (.type "AttributeError")=false:=qX qV6 (qX T.hA rfl);have hcN:(Value.ref C::bm).contains (.type "NameError")=false:=qX qV6 (qX T.hN rfl);refine codeAny_builtinAt F.entry ?_;unfold Builtin.«BaseException.__new__»;refine PySem.wpAt_bind ?_;show PySem.wpAt _ _ _ (stack>>=_) _ _ _;refine PySem.wpAt_bind (PySem.wpAt_stack λp below=>PySem.wpAt_of_wpAny ?_)
 wp_walk
 refine PySem.wpAt_of_wpAny ?_;refine qX (F.owner) ?_
 repeat (first|with_reducible refine wpAny_madeHere_exc F.canon hC ?_|with_reducible refine qZ9 hC ?_|(with_reducible refine qV8 hC ?_;first|rw[hcB]|rw[hcA]|rw[hcN])|wp_step)
 show R _ _;rw[qW3];exact hq
noncomputable def lH(C t:Addr):Obj:={cls:=.ref C,data:=.fields #[.ref t,.none,.none,.none,.bool false,.none]}
theorem v7(F:qH4 B newId initId bmB)(T:v4 B bm){R:qL4->S8->Prop}{rest:List Value}(i:h.get? C=some (qG3 nm q C N bs bm hdct sn sub ab col dd k0 k1 k2 k3 k5 newId))
  (hi:qF2 (model prog w) h (typeLookup (.ref C) "__init__") (some (.ref f))) (n:∀c,qF2 (model prog w) h (bindSpecial (.ref f) c) (.ref f,[c])) (l:rest.length≤sizeLine)
  (p:qW6 (model prog w) (A.under (.builtin "type.__call__" ⟨.ref C::rest,[]⟩)) (.call (.ref f) ⟨.ref (h.objs.size+1)::rest,[]⟩) (InitBack (h.objs.size+1) R) ⟨(h.push {cls:=.type "tuple",data:=.seq rest.toArray}).push (lH C h.objs.size),g,d,t,os⟩):
  qW6 (model prog w) A (.call (.ref C) ⟨rest,[]⟩) R ⟨h,g,d,t,os⟩:=by
 have s:=tc_lookup;have u:=tc_bind (.ref C);have x:(⟨h,g,d,t,os⟩:S8).TypeIs (.ref C) "type":=qZ _ i rfl;refine codeAny_of_tree ?_
 repeat (any_goals (first|assumption|with_reducible refine qZ9 i ?_|wp_step))
 refine⟨rfl,?_⟩;refine codeAny_call_builtin_at (qH9 _ (by decide+kernel)) entry_typeCall (wpAny_check_type_call_sub i ?_)
 repeat (first|with_reducible refine qZ9 i ?_|with_reducible refine wpAny_madeBy_exc i ?_|wp_step)
 refine codeAny_call_builtin_code (qH9 _ F.quiet) (zJ5 F T i ?_);refine v6 F T i ?_ l;have k:∀b o,h.get? b=some o->((h.push {cls:=.type "tuple",data:=.seq rest.toArray}).push (lH C h.objs.size)).get? b=some o:=λb o e=>S7 _ (S7 _ e);have a:=k _ _ i;have j:((h.push {cls:=.type "tuple",data:=.seq rest.toArray}).push (lH C h.objs.size)).get? (h.objs.size+1)=some (lH C h.objs.size):=by
  have:=B3 (h.push {cls:=.type "tuple",data:=.seq rest.toArray}) (o:=lH C h.objs.size) rfl;rw[qW3] at this;exact this
 have m:(Value.ref C::bm).contains (.ref C)=true:=by simp
 have y:=hi.keeps k;have D:=(n (.ref (h.objs.size+1))).keeps k;show D8 _ _ _ _ _ ⟨(h.push {cls:=.type "tuple",data:=.seq rest.toArray}).push (lH C h.objs.size),g,d,t,os⟩;unfold wY7
 repeat (first|with_reducible refine qZ9 j ?_|(with_reducible refine qV8 a ?_;rw[m])|wp_step)
 show D8 _ _ (isSubtype (.ref C) (.ref C)) _ _ _;refine qV8 a ?_;refine qX (m) ?_;have E:qF2 (model prog w) ((h.push {cls:=.type "tuple",data:=.seq rest.toArray}).push (lH C h.objs.size)) (wY4 (.ref (h.objs.size+1))) (.ref C):=(qF2.ld j).andThen .now;unfold callSpecial? specialOf
 repeat (first|with_reducible refine qV1 ?_|lk)
 refine codeAny_mono p λr G z=>?_;rcases r with e|(v|_|_|_)<;>first|exact z|exact z.elim|skip;obtain⟨rfl,z⟩:=z;exact S5 (S5 z)
end
noncomputable def St.xU(H:St)(C:Nat)(a:Addr)(f:M):St:={H with exc:=λb c=>if b=C∧c=a then some f else H.exc b c}
theorem bK(H:St)(C:Nat)(a:Addr)(f:M):(H.xU C a f).exc C a=some f:=A3 ⟨rfl,rfl⟩
noncomputable def zC9(l:List Value):Bool:=l.contains (.type "Exception")&&l.contains (.type "BaseException")&&!l.contains (.type "AttributeError")&&!l.contains (.type "NameError")
noncomputable def zN1(d:Data)(f:ClassData->Bool):Bool:=match d with|.cls cd=>f cd|_=>false
theorem zG5(h:zN1 d f=true):∃a,d=.cls a∧f a=true:=by
 cases d with
 |cls a=>exact qZ a rfl h
 |_=>exact Bool.noConfusion h
noncomputable def fN(K:Frag)(C:Addr):Bool:=pB (K.lookup C) λo=>(o.cls==.type "type")&&zN1 o.data λa=>(a.mro==.ref C::a.mro.tail)&&(o.slots.size==6)&&(o.slots.toList[4]?==some (some (.builtin "Exception.__new__")))&&!a.hasDel&&zC9 a.mro.tail
inductive ExcCls(K:Frag)(h:Heap)(C:Addr):Prop where
 |mk (nm qn:Str) (N:Addr) (bs bm:List Value) (hd:Bool) (sn:List Str) (sub:List Value) (ab:Bool) (col:Option Bool) (dd:Option Addr) (k0 k1 k2 k3 k5:Option Value) (hK:K.lookup C=some (qG3 nm qn C N bs bm hd sn sub ab col dd k0 k1 k2 k3 k5 "Exception.__new__")) (hC:h.get? C=some (qG3 nm qn C N bs bm hd sn sub ab col dd k0 k1 k2 k3 k5 "Exception.__new__")) (hbm:zC9 bm=true)
theorem gW(h:l.length=n+1):∃a r,l=a::r∧r.length=n:=by
 cases l with
 |nil=>exact nomatch h
 |cons a r=>exact nS a r rfl (Nat.succ.inj h)
theorem six(h:l.length=6)(i:l[4]?=some x):∃a b c d f,l=[a,b,c,d,x,f]:=by
 refine yX (gW h) λa q g j=>?_;subst g;refine yX (gW j) λb r g k=>?_;subst g;refine yX (gW k) λc s g m=>?_;subst g;refine yX (gW m) λd t g n=>?_;subst g;refine yX (gW n) λe u g o=>?_;subst g;refine yX (gW o) λf v g p=>?_;subst g;refine qX (List.length_eq_zero_iff.mp p) ?_;exact⟨a,b,c,d,f,qX (show e=x from B5 i) rfl⟩
theorem iR{K:Frag}(X:K.In h)(q:fN K C=true):ExcCls K h C:=by
 refine qY (sZ q) λo c f=>qK (qO f) λg i=>qY (zG5 i) λp j k=>?_;refine Qp k λr s t u l=>?_;clear q f i k;refine wR2 (six (beq_iff_eq.mp s) (beq_iff_eq.mp t)) λv w x y z m=>?_;obtain⟨H,A,I,⟨J⟩⟩:=o;dsimp only at g j m;obtain⟨nm,bs,d,B,D,b,E,sub,F,e,G⟩:=p;have a:=(Bool.not_eq_true' _).mp u;have n:=beq_iff_eq.mp r;dsimp only at a n l;rw[j,beq_iff_eq.mp g,m,a,n] at c;exact⟨nm,D,B,bs,d.tail,b,E,sub,F,e,A,v,w,x,y,z,c,X _ _ c,l⟩
theorem Vm(h:zC9 l=true):v4 "Exception" l∧l.contains (.type "BaseException")=true:=by
 refine qK (qO h) λh a=>qK (qO h) λh b=>qK (qO h) λc d=>?_;exact⟨⟨c,by simpa using b,by simpa using a⟩,d⟩
theorem Hh:qH4 "Exception" "Exception.__new__" "Exception.__init__" [.type "Exception",.type "BaseException",.type "object"]:={PySem.F.excCall_Exception with
 newSplit:=by kernel_rfl
 newKind:=by kernel_rfl
 newRow:=by kernel_rfl
 mroIs:=by rw[mroOf_type];kernel_rfl
 hasB:=by decide+kernel
 hasBase:=by decide+kernel
 noAttr:=by decide+kernel
 noName:=by decide+kernel
 canon:=by decide+kernel}
noncomputable def Ro(K:Frag)(C f:Addr):Bool:=fN K C&&(qP1 K (.ref C) "__init__"==some (some (.ref f)))&&(typeIn K (.ref f)==some (.type "function"))&&qH1 K (.ref C)
theorem View.addExc0(V:View κ H)(a:κ b=some (.cB C)):View κ (H.xU C b λ_=>none):=by
 refine⟨V.obj,V.lst,V.tup,V.sd,V.td,V.yT,V.qG,V.fn,λc d f e=>?_,V.tab⟩;simp only[St.xU] at e;split at e
 ·rename_i q;obtain⟨rfl,rfl⟩:=q;cases e;exact .inl ⟨a,rfl⟩
 ·exact V.exc _ _ _ e
theorem Cg(O:Z.Ok){as:List AV}(l:Ro Z.K C f=true)(N:as.length<100)(w:∀x,tC Z (n+1) f (.ref x::as) (H.xU C x λ_=>none) (λa H'=>a=.none∧Q (.ref x) H') R):qB Z (n+2) C as H Q R:=by
 refine qK (qO l) λl p=>qK (qO l) λl t=>qK (qO l) λu y=>?_;have t:=beq_iff_eq.mp t;have y:=beq_iff_eq.mp y;refine⟨.inl p,λi P A E Qc V s z W S hl Y kx=>?_⟩;have X:=O.X.keeps S.old;obtain⟨_,_,_,_,bm,_,_,_,_,_,_,_,_,_,_,_,_,hC,B⟩:=iR X u;refine qK (Vm B) λbo _=>?_;obtain⟨h,g,d,tk,os⟩:=s;have D:i.length≤sizeLine:=by rw[P.length,O9];lia
 refine qV1 (v7 Hh bo hC (qY6 X y) (λm=>bind_fn X m t) D ?_);have hk:∀b o,h.get? b=some o->(h.push {cls:=.type "tuple",data:=.seq i.toArray}).get? b=some o:=λb o e=>S7 _ e;refine qK (S.more (tk:=tk) hk) λF f1=>?_;have G:(h.push {cls:=.type "tuple",data:=.seq i.toArray}).objs.size=h.objs.size+1:=qW3 ..;refine jL (F.free O (Nat.le_refl _)) λaa I zx ab=>?_;have gx:((h.push {cls:=.type "tuple",data:=.seq i.toArray}).push (lH C h.objs.size)).get? (h.push {cls:=.type "tuple",data:=.seq i.toArray}).objs.size=some (lH C h.objs.size):=B3 _ rfl;refine qK (F.new (tk:=tk) (h':=(h.push {cls:=.type "tuple",data:=.seq i.toArray}).push (lH C h.objs.size)) (c:=.cB C) (H':=H.xU C (h.push {cls:=.type "tuple",data:=.seq i.toArray}).objs.size λ_=>none) O (Nat.le_refl _) (λb o e=>S7 _ e) (Tn _ _ gx rfl rfl rfl (qZ _ ⟨rfl,rfl⟩ (.inl rfl))) ((F.view.fresh I).addExc0 (zG ..))) λT U=>?_;rw[G] at T U;have J:uW Z (A.under (.builtin "type.__call__" ⟨.ref C::i,[]⟩)) (n+1):=by
  refine⟨?_,?_,z.hd⟩
  ·have:=z.depth;show A.depth+1+2*(n+1)+2≤900;lia
  ·have:=z.units;show A.units+1+40*(n+1)+100≤9000;lia
 have K:=f1.trans U;have L:mA Z (wM V (h.objs.size+1) (.cB C)) (A.under (.builtin "type.__call__" ⟨.ref C::i,[]⟩)) ((h.push {cls:=.type "tuple",data:=.seq i.toArray}).push (lH C h.objs.size)):=by
  obtain⟨j,q,r⟩:=W.pT K;exact⟨j,q,r⟩
 refine w _ _ (.cons (.ref _) P) _ _ _ _ J L T (λv M k H' r f q=>?_) λe M k H' r f q=>kx e M k H' r (.of K f) q;obtain⟨a,ia,rfl,q⟩:=q;obtain rfl:=ia.of_none;exact⟨rfl,Y _ M k H' r (K.trans f) (qZ _ (.ref _) q)⟩
theorem Pv(a:Value):refuseLoop a "__setattr__" [.type "Exception",.type "BaseException",.type "object"]=pure ():=by kernel_rfl
theorem v9(a:Value):bindSpecial (.builtin "BaseException.__getattribute__") a=pure (.builtin "BaseException.__getattribute__",[a]):=by kernel_rfl
theorem Cf:plainId "BaseException.__getattribute__"=true:=by decide+kernel
theorem u3:builtinKind "BaseException.__getattribute__"=some .slot:=by decide+kernel
theorem Ch:splitId "BaseException.__getattribute__"=some ("BaseException","__getattribute__"):=by decide+kernel
theorem wQ7:(Value.builtin "BaseException.__getattribute__"==Value.builtin "object.__getattribute__")=false:=by decide+kernel
noncomputable def Mv(l:List Value):Bool:=l.dropWhile (λv=>match v with|.ref _=>true|_=>false)==[.type "Exception",.type "BaseException",.type "object"]
theorem u4(a:Value):∀{l:List Value},Mv l=true->refuseLoop a "__setattr__" l=pure ():=by
 intro l;induction l with
 |nil=>
  intro e;cases e
 |cons v r b=>
  intro e;by_cases q:∃c,v=.ref c
  ·refine zH q λc d=>?_;subst d;rw[refuseLoop_ref];exact b e
  ·have f:v::r=[.type "Exception",.type "BaseException",.type "object"]:=by
    have:=beq_iff_eq.mp (show(List.dropWhile _ (v::r)==_)=true from e);rw[List.dropWhile_cons_of_neg] at this
    ·exact this
    ·intro z;cases v<;>first|exact q ⟨_,rfl⟩|cases z
   exact qX (f) (Pv a)
noncomputable def bL(K:Frag)(C:Addr)(k:Nat):Bool:=(qP1 K (.ref C) "__getattribute__"==some (some (.builtin "BaseException.__getattribute__")))&&(qP1 K (.ref C) "__getattr__"==some none)&&(mroIn K C (.type "BaseException")==some true)&&qB0 K C&&(qP1 K (.ref C) (nm k)==some none)&&
 (qP1 K (.ref C) "__setattr__"==some (some (.builtin "object.__setattr__")))&&(mroIn K C (.type "object")==some true)&&((clsIn K C).any λa=>Mv a.mro)&&Nat.blt k NN
structure jG(K:Frag)(C:Addr)(k:Nat):Prop where
 ga:qP1 K (.ref C) "__getattribute__"=some (some (.builtin "BaseException.__getattribute__"))
 gh:qP1 K (.ref C) "__getattr__"=some none
 mb:mroIn K C (.type "BaseException")=some true
 hd:qB0 K C=true
 no:qP1 K (.ref C) (nm k)=some none
 sa:qP1 K (.ref C) "__setattr__"=some (some (.builtin "object.__setattr__"))
 mo:mroIn K C (.type "object")=some true
 mr:∃cd,clsIn K C=some cd∧Mv cd.mro=true
 lt:k<NN
theorem dP{K:Frag}{C:Addr}(h:bL K C k=true):jG K C k:=by
 refine qK (qO h) λh a=>qK (qO h) λh b=>qK (qO h) λh c=>qK (qO h) λh d=>qK (qO h) λh e=>qK (qO h) λh f=>qK (qO h) λh g=>qK (qO h) λi j=>?_;exact⟨beq_iff_eq.mp i,beq_iff_eq.mp j,beq_iff_eq.mp g,f,beq_iff_eq.mp e,beq_iff_eq.mp d,beq_iff_eq.mp c,any_some b,oY a⟩
section
variable{prog:Program}{w:qQ2}{A:O3}{E:Value->S8->Prop}{s:S8}{K:Frag}{x C:Addr}{ox:Obj}{od:Option Obj}{expr:Bool}
theorem zP2(X:K.In s.heap)(a:jG K C k)(I:InstAt s.heap x ox C od)(f:findObj K C od (nm k)=some (.value v))(e:handedIn v=true)(h:Q v {s with toks:=s.toks+1}):D8 (model prog w) A (qN0 (.ref x) (nm k) expr) Q E s:=by
 obtain⟨c,g,d,tk,os⟩:=s;have b:=I.type (M:=model prog w);have i:=qY6 (M:=model prog w) X a.ga;have j:=qY6 (M:=model prog w) X a.gh;have l:=looks_find (M:=model prog w) X I f;have m:qF2 (model prog w) c (wY7 (.ref x) (.type "BaseException")) true:=b.andThen (looks_mroIn X a.mb);unfold qN0 getAttrBy;refine R8 (qO6 (O4 (R8 (b.at (R8 (i.at ?_))))));have n:(wM4 (Value.ref C)&&Value.builtin "BaseException.__getattribute__"==Value.builtin "object.__getattribute__")=false:=by rw[wQ7,Bool.and_false]
 show D8 (model prog w) A (if(wM4 (Value.ref C)&&Value.builtin "BaseException.__getattribute__"==Value.builtin "object.__getattribute__")=true then getAttrEveryday (.ref x) (.str (nm k) tk) true else wM8 (.ref x) (.str (nm k) tk) (.ref C) (.builtin "BaseException.__getattribute__") true expr) _ _ _;refine qX (D9 (show¬_=true from qX n Bool.false_ne_true)) ?_;unfold wM8;refine R8 ((show qF2 (model prog w) c (hookBefore (.ref C)) none from j).at ?_);refine R8 (qN7 (O4 ?_));have o:(expr&&wM4 (Value.builtin "BaseException.__getattribute__"))=false:=by cases expr<;>rfl
 unfold callGetattribute;rw[D9 (show¬_=true from by rw[o];exact Bool.false_ne_true)];unfold boundAndCalled;rw[v9];refine R8 (S5 ?_);refine qV1 (qL7 Cf F.entry_bexc_ga (@check_slot (model prog w) _ _ _ "BaseException.__getattribute__" "BaseException" "__getattribute__" (.ref x) [.str (nm k) tk] [] _ u3 Ch m (F.args_bexc_ga _ _) ?_));unfold Builtin.«object.__getattribute__»;refine R8 (S5 (R8 (S5 (R8 (b.at (R8 (l.at ?_)))))));refine S5 ?_;show D8 _ _ (handedOut v) _ _ _;exact qX (handedOut_of e) (S5 h)
end
end
section
open PySem.Calls PySem.Spec PySem.Builtin.ObjectAttr
section
variable{prog:Program}{w:qQ2}{A:O3}{E:Value->S8->Prop}{s:S8}{K:Frag}{x C:Addr}{ox:Obj}{od:Option Obj}
theorem Sq{k:Nat}{tk:Tok}{v:Value}{R:qL4->S8->Prop}(X:K.In s.heap)(a:jG K C k)(I:InstAt s.heap x ox C od)
  (h:∀b,D8 (model prog w) A.in1 (storeInOwnDict (.ref x) (.ref C) (.str (nm k) tk) (nm k) v b)
   (λfin d=>match fin with|.done f=>R (.ok f) d|.again c'=>c'.quiet=true∧qW6 (model prog w) A c' R d) (λe d=>R (.error e) d) s):
  qW6 (model prog w) A (.call (.builtin "object.__setattr__") ⟨[.ref x,.str (nm k) tk,v],[]⟩) R s:=by
 have c:=PySem.F.store_object;have sub:qF2 (model prog w) s.heap (wY7 (.ref x) (.type "object")) true:=I.type.andThen (looks_mroIn X a.mo);refine qL7 c.slot.plain c.entry (@check_slot (model prog w) _ _ s "object.__setattr__" "object" "__setattr__" (.ref x) [.str (nm k) tk,v] [] _ c.kind c.split sub (c.args (.ref x) (.str (nm k) tk) v) ?_);refine qY a.mr λi j g=>?_;have l:qF2 (model prog w) s.heap (mroOf (.ref C)) i.mro:=(qB9 X j).andThen .now;rw[osa_eq,refuse_eq];refine R8 (R8 (I.type.here (R8 (l.here ?_))));refine qX (u4 _ g) ?_;refine S5 (R8 (I.type.here (R8 ((qY6 X a.no).here (R8 ((show qF2 (model prog w) s.heap (storeTaker? none) none from .now).here ?_))))));exact h _
end
theorem View.putExcD(V:View κ H)(g:κ a=some (.exc C d))(b:κ d=some (.dat a l₀)):View (wM κ d (.dat a l)) (H.xU C a (zE l)):=by
 have B:=V.but (c:=.dat a l) b;refine⟨λh i f e=>?_,B.lst rfl,B.tup rfl,B.sd rfl,B.td rfl,B.yT rfl,B.qG rfl,B.fn rfl,λh i f e=>tV e (λq z=>.inr (xO d l (qX q.2 (qX q.1 (yO b g rfl))) (vS rfl (qX q.2 rfl)) z.symm)) λq e=>(V.exc h i f e).imp (λp=>⟨yO b p.1 rfl,p.2⟩) λm=>wV m λj k p r s=>xO j k (yO b p rfl) (jY r b λz x=>?_) s,B.tab rfl⟩
 ·refine wV (V.obj h i f e) λj k p r s=>?_;refine xO j k (yO b p rfl) (jY r b λz x=>?_) s;rw[<-(Cell.dat.inj z).1] at p;exact nomatch sj g p
 ·rw[<-(Cell.dat.inj z).1] at p;exact q ⟨(Cell.exc.inj (sj g p)).1.symm,(Cell.dat.inj z).1.symm⟩
theorem View.u5(V:View κ H)(b:κ a=some (.cB C))(g:κ d=some (.dat a [])):View (wM κ a (.exc C d)) (H.xU C a (zE [])):=by
 have B:=V.but (c:=.exc C d) b;refine⟨B.obj rfl rfl,B.lst rfl,B.tup rfl,B.sd rfl,B.td rfl,B.yT rfl,B.qG rfl,B.fn rfl,λh i f e=>tV e (λq z=>.inr (xO d ([]) (vS q.2 (qX q.1 rfl)) (qX q.2 (yO b g rfl)) z.symm)) λq e=>(V.exc h i f e).imp (λp=>⟨jY p.1 b λz x=>?_,p.2⟩) λj=>wV j λk l p r s=>xO k l (yO b p rfl) (yO b r rfl) s,B.tab rfl⟩;exact q ⟨(Cell.cB.inj z).symm,x⟩
theorem zK6(H:St)(C:Nat)(t:Addr)(f g:M):(H.xU C t f).xU C t g=H.xU C t g:=
 cgA (λx=>{H with exc:=x}) (funext λa=>funext λb=>(Decidable.em (a=C∧b=t)).elim (λz=>(A3 z).trans (A3 z).symm) λz=>(D9 z).trans ((D9 z).trans (D9 z).symm))
theorem u6(O:Z.Ok){C k:Nat}{t:Addr}{f:M}{v:Value}{a:AV}{Q:Unit->St->Prop}(B:jG Z.K C k)(h:H.exc C t=some f)(hv:Is v a)(q:Q () (H.xU C t (up f k a))):
  R9 Z n lc (qO7 (.ref t) (nm k) v) H Q R:=by
 intro A E Qc i s bc hF g hl P kx;have X:=O.X.keeps g.old;have hk:=B.lt;refine qY (any_some B.hd) λcd hc F=>?_;have j:∀(i:Kp)(s:S8)(H:St)(d:Addr)(l:List (Nat×AV))(t0:Tok)(G:qL4->S8->Prop),Rep Z i s H->i t=some (.exc C d)->i d=some (.dat t l)->
   (∀h' tk,Rep Z (wM i d (.dat t (qJ9 l k a))) {s with heap:=h',toks:=tk} (H.xU C t (up (zE l) k a))->yL i s.heap (wM i d (.dat t (qJ9 l k a))) h'->G (.ok (.ret .none)) {s with heap:=h',toks:=tk})->
   D8 (model O7 Z.w) A.in1 (storeInDict d (.str (nm k) t0) (nm k) v) (λfin m=>match fin with|.done f=>G (.ok f) m|.again c'=>c'.quiet=true∧qW6 (model O7 Z.w) A c' G m) (λe m=>G (.error e) m) s:=by
  intro i s H d l t0 G g p1 S P;refine qY ((g.cells d _ S).1) λJ U p5=>?_;refine R8 (S5 (R8 ?_));refine oF (w:=Z.w) rfl U λh' W hs=>?_;have hb:=uT p5 hk hv;have bb:(qH0 J (nm k) v).length≤NN:=by obtain⟨_,_,_,_,_,_,_,_,hn⟩:=W;exact lZ hb hn
  refine tZ (id W) λo' bd be Y bf aa bg ab bh=>?_;refine R8 (wH7 Y ?_ ?_)
  ·refine qX (aa) ?_;refine wH8 ?_;have:=ab.length;replace this:=qX1▸this;refine qX (this) (qX (O9) ?_);have:NN=267:=rfl;lia
  ·have V:=g.view.putExcD (l:=qJ9 l k a) p1 S;rw[kE] at V;refine qK (g.upd (b:=d) (c:=.dat t (qJ9 l k a)) (tk:=s.toks+1) S rfl hs.extBut (qZ _ W hb) V) λD K=>?_;exact S5 (P _ _ D K)
 rcases g.view.exc C t f h with y2|y1
 ·refine qK y2 λk0 z1=>?_;clear y2;subst z1;refine Fs ((g.cells t _ k0).1) λo vs p u x y e5=>?_;have I:InstAt s.heap t o C none:=⟨p,u,by unfold notCls;rw[y],by rw[x];trivial⟩;refine wH6 X I B.sa (Sq (s:={s with toks:=s.toks+1}) X B I λb=>?_);refine R8 (S5 (R8 (R8 (qM4 (s:={s with toks:=s.toks+1}) p ?_))));obtain⟨oc,ac,ae,af⟩:=o;simp only at u x y;subst u x y;refine R8 ((qB9 (h:=s.heap) X hc).at ?_);refine qX (F) ?_;refine jL (g.free O (Nat.le_refl _)) λag kD zD ca=>?_;have L:t≠s.heap.objs.size:=λz=>uZ (ag.symm.trans (z▸p));have gD:(s.heap.push emptyDict).get? s.heap.objs.size=some emptyDict:=B3 _ rfl;have gt:=S7 emptyDict p;refine R8 (wpAny_alloc (R8 (zQ3 gt (S5 ?_))));refine qK (g.new (tk:=s.toks+1) (h':=s.heap.push emptyDict) (c:=.dat t []) (H':=H) O (Nat.le_refl _) (λb o e=>S7 _ e) (qZ ([]) (cM _ _ _ gD ⟨rfl,rfl,rfl⟩ rfl (λe he=>by simp at he) .nil (by simp)) .nil) (g.view.fresh kD)) λD f1=>?_;have N:wM i s.heap.objs.size (.dat t []) t=some (.cB C):=qX (zM L) k0;have ah:=D7 (λo=>{o with dict:=some s.heap.objs.size}) gt rfl;have hx:qW0 t (s.heap.push emptyDict) ((s.heap.push emptyDict).update t λo=>{o with dict:=some s.heap.objs.size}):=λb o n e=>qX (qX8 _ _ (qN6 n)) e;have e6:Wt (wM (wM i s.heap.objs.size (.dat t [])) t (.exc C s.heap.objs.size)) vs:=e5.grow λT kT=>by
   exact qX (zM λz=>Cell.noConfusion (B5 (k0.symm.trans (z▸kT)))) (qX (zM (λz=>uZ (kD.symm.trans (z▸kT)))) kT)
  refine qK (D.upd (tk:=s.toks+1) (c:=.exc C s.heap.objs.size) (H':=H.xU C t (zE [])) N rfl hx (Tn _ vs ah rfl rfl rfl e6) (D.view.u5 N (zG ..))) λK f2=>?_;refine j _ _ (H.xU C t (zE [])) s.heap.objs.size [] _ (λr m=>match r with|.ok (.ret _)=>Qc () m|.ok _=>False|.error e=>E e m) K (zG ..) (qX (zM L.symm) (zG ..)) λh' tk r3 f3=>?_;replace r3:=zK6 H C t (zE []) (up (zE []) k a)▸r3;exact P () _ _ _ r3 ((f1.trans f2).trans f3) q
 ·refine wV y1 λd l k1 k2 z1=>?_;clear y1;subst z1;refine Fs ((g.cells t _ k1).1) λo vs p u x y e5=>qY ((g.cells d _ k2).1) λJ U p5=>gL (qV2 U) λod es ep f1 f2 f3=>?_;have I:InstAt s.heap t o C (some od):=⟨p,u,by unfold notCls;rw[y],qX x f1⟩;refine wH6 X I B.sa (Sq (s:={s with toks:=s.toks+1}) X B I λb=>?_);refine R8 (S5 (R8 (R8 (qM4 (s:={s with toks:=s.toks+1}) p ?_))));obtain⟨oc,ac,ae,af⟩:=o;simp only at u x y;subst u x y;refine R8 ((qB9 (h:=s.heap) X hc).at ?_);refine qX (F) ?_;refine S5 (a:=some d) ?_;refine j i {s with toks:=s.toks+1} H d l _ (λr m=>match r with|.ok (.ret _)=>Qc () m|.ok _=>False|.error e=>E e m) g.toks k1 k2 λh' tk D K=>P () _ _ _ D K q
end
section
open PySem.Calls PySem.Spec
theorem zY9:opaqueClassAbove (.type "Exception")=pure none:=by kernel_rfl
theorem wR1(v:Value)(a b:α):(match v with|.ref _=>a|_=>b)=a∨(match v with|.ref _=>a|_=>b)=b:=by
 cases v<;>first|exact .inl rfl|exact .inr rfl
noncomputable def qI7(v:Value):Option CFound->Bool
 |some x=>x.casesOn (λy=>y==v) λ_ _ _ _=>false
 |none=>false
theorem Sz(h:qI7 v x=true):x=some (.val v):=by
 cases x with
 |none=>exact Bool.noConfusion h
 |some x=>cases x with
  |val y=>exact cgA (λz=>some (CFound.val z)) (beq_iff_eq.mp h)
  |get _ _ _ _=>exact Bool.noConfusion h
noncomputable def Pu(K:Frag)(C f:Addr):Bool:=readsIn K C (.type "type")&&(specialIn K (.ref C) "__getattribute__"==some (some (.builtin "type.__getattribute__")))&&qI7 (.ref f) (findCls K (.ref C) (.type "type") "__init__")&&handedIn (.ref f)
theorem zW7(O:Z.Ok)(a:Pu Z.K C f=true)(q:Q (.ref f,[]) H):R9 Z n lc (qV5 (.ref C) "__init__" pl) H Q R:=by
 refine qK (qO a) λa c=>qK (qO a) λa d=>qK (qO a) λe g=>?_;intro A E j h s k l b m i o;have X:=O.X.keeps b.old;exact method_cls X (beq_iff_eq.mp g) (cls_value X e (Sz d) c (i _ _ h H b.toks (yL.refl _ _) q))
noncomputable def Yn(K:Frag):Bool:=(qP1 K (.type "type") "__getattribute__"==some (some (.builtin "type.__getattribute__")))&&(subIn K (.type "type") (.type "type")==some true)&&qI7 (.builtin "Exception.__init__") (findCls K (.type "Exception") (.type "type") "__init__")
theorem zZ6(O:Z.Ok)(a:Yn Z.K=true)(q:Q (.builtin "Exception.__init__",[]) H):R9 Z n lc (qV5 (.type "Exception") "__init__" pl) H Q R:=by
 refine qK (qO a) λa f=>qK (qO a) λb g=>?_;intro A E j h s k l c m i o;have X:=O.X.keeps c.old;have e:=Sz f;have d:qF2 (model O7 Z.w) s.heap (wY4 (.type "Exception")) (.type "type"):=qF2.of_pure (by kernel_rfl);unfold qV5;refine R8 (R8 (d.here ((qY6 X (beq_iff_eq.mp b)).here ?_)));dsimp only;refine qX (A3 canon_tga) ?_;refine R8 ?_;refine cls_open X (qF2.of_pure zY9) d (beq_iff_eq.mp b) (hook:=none) (show qF2 _ _ (hookBefore (.type "type")) none from .now) (beq_iff_eq.mp g) e (S5 ?_);show D8 _ _ (handedOut (.builtin "Exception.__init__")) _ _ _;refine qX (handedOut_of (by rfl)) ?_;exact S5 (S5 (i _ _ h H c.toks (yL.refl _ _) q))
section
variable{MO:Model}{A:O3}{E:Value->S8->Prop}{h:Heap}{g:Array zH2}{d:Drawn}{t:Nat}{os:qF9}
variable{nm q:Str}{C N:Addr}{bs bm bmB:List Value}{hdct:Bool}{sn:List Str}{sub:List Value}{ab:Bool}{col:Option Bool}{dd:Option Addr}{k0 k1 k2 k3 k5:Option Value}{B newId initId:String}
theorem u7(F:qH4 B newId initId bmB)(T:v4 B bm){e:Addr}{j:Obj}{rest:List Value}{Q:Unit->S8->Prop}
  (k:h.get? C=some (qG3 nm q C N bs bm hdct sn sub ab col dd k0 k1 k2 k3 k5 newId)) (l:h.get? e=some j) (c:j.cls=.ref C) (m:Q () ⟨h,g,d,t,os⟩):
  D8 MO A (qB7 initId ⟨.ref e::rest,[]⟩) Q E ⟨h,g,d,t,os⟩:=by
 have i:(Value.ref C::bm).contains (.type B)=true:=by rw[qV6,T.hB,Bool.or_true]
 have f:=F.noStar;simp only[qB7,F.initKind,F.initSplit,F.initRow]
 repeat (first|(with_reducible refine qZ9 l ?_;rw[c])|with_reducible refine qZ9 k ?_|(with_reducible refine qV8 k ?_;rw[i])|wp_step)
 refine wpAny_onRaise ?_;rw[show∀(a b:String)(n:Nat),Bind.check ⟨.positional,"*",B,.self,[⟨"args",.varPos,false⟩]⟩ a b n (qU7 (λx=>x.fst) ({pos:=Value.ref e::rest}:Args).kw)=pure () from
  λa b n=>check_star_args _ _ _ _ _ _]
 exact S5 m
end
theorem Cm(O:Z.Ok)(nA:fN Z.K C=true)(z:Is v (.ref e))(h:H.exc C e=some f)(q:Q .none H):R9 Z n lc (call (.builtin "Exception.__init__") [v,u] []) H Q R:=by
 obtain rfl:=z.zT;intro A E V r s W Y k hl B kx;have X:=O.X.keeps k.old;obtain⟨_,_,_,_,bm,_,_,_,_,_,_,_,_,_,_,_,_,D,l⟩:=iR X nA;refine qK (Vm l) λF _=>?_;obtain⟨o,t,c,G,I,w,p,J,x,⟨y,K⟩,L⟩:=vP k h;obtain⟨j,g,d,tk,os⟩:=s;refine qV1 (qL7 Hh.init.plain Hh.initEntry (u7 Hh F D w J ?_));show D8 _ _ (qM6 [u]>>=λM=>PySem.Builtin.BaseException.bexcPut (.ref e) 0 M>>=λ_=>ret .none) _ _ _;unfold qM6;refine R8 (qQ4 ?_);refine qK (k.more (tk:=tk) (h':=j.push {cls:=.type "tuple",dict:=none,data:=.seq [u].toArray}) λb o e=>S7 _ e) λN P=>?_;have i:=S7 (h:=j) {cls:=.type "tuple",dict:=none,data:=.seq [u].toArray} w;have a:=(qS4.mp y).1;have S:Wt r (t.setIfInBounds 0 (.ref j.objs.size)):=qZ x ⟨qX (qU9 (by decide)) y,qX (qU9 (by decide)) K⟩ L;refine qK (N.Hh G I i p (g:=(·.setIfInBounds 0 (.ref j.objs.size))) S) λT U=>?_;unfold PySem.Builtin.BaseException.bexcPut;refine R8 (R8 (qY1 i p (qJ3 (Nat.lt_trans Nat.zero_lt_one a)) (R8 (qV0 i p (Nat.lt_trans Nat.zero_lt_one a) ?_))));have fin:=B .none _ r H T (P.trans U) q;exact(show∀m:Sem Unit,m=letGo [t[0]]∨m=pure ()->D8 _ _ m _ _ _ fromλm h=>h.elim (λe=>qX e (wpAny_letGo (S5 fin))) λe=>qX e (S5 (S5 fin))) _ (wR1 _ _ _)
theorem rR{H:St}:(H.xU C a f).xU C a g=H.xU C a g:=cgA (λo=>({H with exc:=o}:St)) (funext λ_=>funext λ_=>wZ3)
noncomputable def Qi(K:Frag)(c:List (Str×NameKind))(k:Nat)(s:Stmt):Bool:=eF s λa v e=>wC a λd=>gP d λo b f=>lK d v&&yJ K (.N9 47) c o&&yJ K (.N9 k) c v&&sE b (nm k)
noncomputable def bP(K:Frag)(d:List (Str×NameKind))(a:Expr->Bool)(c:Xs)(s:Stmt):Bool:=oG s λe _=>lU e&&Rl "__init__" e λo b=>a o&&gE K c d b
noncomputable def bG(K:Frag):Bool:=nO K 77 λfd a=>dK K [(false,47),(false,52)] [] fd&&yR a λb l=>yR l λc d=>d.isEmpty&&bP K fd.scope.names (He K fd.scope.names 171) (.cons (.N9 47) (.cons (.N9 52) .nil)) b&&Qi K fd.scope.names 52 c
noncomputable def iS(K:Frag):Bool:=nO K 116 λfd a=>dK K [(false,47),(false,89)] [] fd&&yR a λb l=>yR l λc d=>d.isEmpty&&bP K fd.scope.names (gT K fd.scope.names 154 (.ref 80)) (.cons (.N9 47) (.cons (.R3 (.str 255)) .nil)) b&&Qi K fd.scope.names 89 c
theorem tC.call(a:qH1 Z.K (.ref f)=true)(h:tC Z n f as H Q R):qB Z n f as H Q R:=⟨.inl a,λb c A E d e s g i j m k l=>qV1 (h b c A (wants d E) e s g i j k l)⟩
theorem Sw(d:Z.hd=none)(O:Z.Ok)(g:zV eV F ks)(b:Qi Z.K ks k s=true)(p:jG Z.K C k)(h:H.exc C e=some f)(l:m 47=some (.ref e))(j:m k=some a)(q:Q .next m (H.xU C e (up f k a))):qF Z n eV.locals m (exec s eV) H Q qM:=by
 refine nK b λr v t b=>jZ b λG b=>?_;refine jP (oV b) λo w I y c=>?_;subst y;refine tM c λz A B D=>?_;obtain rfl:=Jp D;exact zM6 z (R9.Qb (yH d O (.N9 k) B g ⟨a,j,rfl,rfl⟩) λx i=>Iz (R9.Qb (yH d O (.N9 47) A g ⟨.ref e,l,rfl,rfl⟩) λu E=>pQ E (u6 O p h i q)))
theorem Pk(x:Z.hd=none)(O:Z.Ok)(k:zV eV F ks){a:Expr->Bool}{c:Xs}{s:Stmt}{g bv:Value}{Q:Flow->M->St->Prop}(f:bP Z.K ks a c s=true)
  (u:∀(o:Expr)(H0:St)(b:Value->St->Prop),a o=true->b bv H0->R9 Z n (some (eV.locals,m)) (eval o eV) H0 b qM) (w:∀(H0:St)(d:Sem Bool)(b:Value×List Value->St->Prop),b (g,[]) H0->R9 Z n (some (eV.locals,m)) (qV5 bv "__init__" d) H0 b qM)
  (v:qU2 Z H g) (as:List AV) (y:wEs Z n F qM c m (λvs h=>vs=as∧h=H) H) (z:∀vs,zK Is vs as->R9 Z n (some (eV.locals,m)) (call g vs []) H (λ_ h=>Q .next m h) qM):qF Z n eV.locals m (exec s eV) H Q qM:=by
 refine iM f λe p f=>xJ f λA B=>?_;refine Ws (Lh B) λo l r C i D j=>?_;subst i;refine xJ j λE G=>Vl D λI t J K=>?_;refine Hp A k.kind (tP I t J K (u o H _ E λd=>w H d _ (vX t ((La x O c G k y).qq λvs R q=>?_))));refine zX q λL N i P=>?_;clear q;subst i;subst P;exact⟨v,z vs N⟩
theorem Sx{Q:Fl->M->St->Prop}{a:Flow}{m':M}{H':St}:(a=.next∧FQ Q .next m' H')->match a with|.next=>qF Z n eV.locals m' (qQ8 [] eV) H' (FQ Q) qM|f=>FQ Q f m' H':=by
 intro b;refine qK b λc q=>?_;clear b;subst c;exact zN5 q
theorem Pl{K:Frag}{a:Expr->Bool}{e:Xs}(body:List Stmt){P:List Stmt->Prop}(d:(yR body λb l=>yR l λc f=>f.isEmpty&&bP K ks a e b&&Qi K ks k c)=true)(q:∀b c,bP K ks a e b=true->Qi K ks k c=true->P [b,c]):P body:=
 xP d λb l d=>xP d λc f d=>vG d λg h i=>jD g (q b c h i)
theorem u8(r:Z.hd=none)(O:Z.Ok)(j:bG Z.K=true)(k:Yn Z.K=true){C:Nat}{Q:AV->St->Prop}(nA:fN Z.K C=true)(B:jG Z.K C 52)(h:H.exc C e=some f)(q:Q .none (H.xU C e (up f 52 a))):tC Z (n+1) 77 [.ref e,a] H Q qM:=by
 refine dL (W:=λF m c d=>m 47=some (.ref e)∧m 52=some a∧d=H∧c .next m (H.xU C e (up f 52 a))) (Q:=Q) (as:=[.ref e,a]) O j rfl (λfd b s F m c d j l w=>Pl (P:=λb=>qF Z n s.locals m (qQ8 b s) d (FQ c) qM) b j λN R D E=>?_) ⟨rfl,rfl,rfl,q⟩;refine jL w λt u i w=>?_;subst i;refine yK (Pk (bv:=.type "Exception") (g:=.builtin "Exception.__init__") r O l D (λo G c I q=>?_) (λG S c q=>zZ6 O k q) qU2.builtin [.ref e,a] ⟨.ref e,t,a,u,rfl,rfl⟩ λT J=>?_)
 ·refine zX (Lf I) λp i K L=>?_;subst i;exact Hf (v:=.type "Exception") O l (by decide) K L (by kernel_rfl) q
 ·refine wV (Lw J) λx y i M U=>?_;subst i;exact Cm O nA M h (yK ((Sw r O l E B h t u (Q:=λz A d=>z=.next∧FQ c .next A d) ⟨rfl,w⟩).qq λz A d q=>Sx q))
theorem u9(r:Z.hd=none)(O:Z.Ok)(s:iS Z.K=true)(k:bG Z.K=true)(u:Yn Z.K=true)(t:Pu Z.K 80 77=true)(j:qH1 Z.K (.ref 77)=true){C:Nat}{e:Addr}{f:M}{a:AV}{Q:AV->St->Prop}(nA:fN Z.K C=true)(D:jG Z.K C 52)(l:jG Z.K C 89)(h:H.exc C e=some f)
  (q:Q .none (H.xU C e (up (up f 52 (.str 255)) 89 a))):tC Z (n+2) 116 [.ref e,a] H Q qM:=by
 refine dL (n:=n+1) (W:=λF m d c=>m 47=some (.ref e)∧m 89=some a∧c=H∧d .next m (H.xU C e (up (up f 52 (.str 255)) 89 a))) (Q:=Q) (as:=[.ref e,a]) O s rfl (λfd b y F m d c s x w=>Pl (P:=λb=>qF Z (n+1) y.locals m (qQ8 b y) c (FQ d) qM) b s λY s2 E G=>?_) ⟨rfl,rfl,rfl,q⟩;refine jL w λz I J w=>?_;subst J;refine yK (Pk (bv:=.ref 80) (g:=.ref 77) r O x E (λo K d L q=>?_) (λK pl d q=>zW7 O t q) (qU2.K O j) [.ref e,.str 255] ⟨.ref e,z,rfl,rfl⟩ λN R=>?_)
 ·exact xJ L λS T=>yW S λp U V=>R9.Qb (sK O x U V T ⟨rfl,rfl⟩) λv i=>pQ i q
 ·refine R9.Qb (((u8 (n:=n) r O k u nA D h (a:=.str 255) (Q:=λa X=>a=.none∧X=c.xU C e (up f 52 (.str 255))) ⟨rfl,rfl⟩).call j).2 N R).N9 λv _=>?_;refine yK ((Sw r O x G l (bK ..) z I (Q:=λA B c=>A=.next∧FQ d .next B c) ⟨rfl,?_⟩).qq λA B c q=>Sx q);refine qX (rR) ?_;exact w
theorem zX8(t:Z.hd=none)(O:Z.Ok)(h:R9 Z n (some (L,m)) (eval x eV) H (λv b=>∃e C f,v=.ref e∧b.exc C e=some f∧fN Z.K C=true∧R (.ref e) b) qM):qF Z n L m (exec (.Raise (some x) none pos) eV) H Q R:=by
 rw[arm_exec_Raise];refine qF.standAt ?_;intro A E Qc G s l I J u h0 kq w;unfold raiseStmt;refine R8 (R8 (h A E _ G s l I J u (λv K j b k M q=>R8 (qY9 (S5 ?_))) (λ_ _ _ _ _ _ q=>q.elim)));obtain⟨e,C,f,rfl,N,nA,q⟩:=q;have X:=O.X.keeps k.old;obtain⟨_,_,_,_,P,_,_,_,_,_,_,_,_,_,_,_,_,y,p⟩:=iR X nA;obtain⟨bo,a⟩:=Vm p;have r:(Value.ref C::P).contains (.type "BaseException")=true:=by rw[qV6,a,Bool.or_true]
 obtain⟨o,vs,c,k1,hc,S,z,B,x1,⟨U,c4⟩,V⟩:=vP k N;obtain⟨oc,od,W,Y⟩:=o;simp only at z B;subst z B;have D:=M.G9.Ae u;obtain⟨hp,g,d,tk,os⟩:=K
 repeat (first|with_reducible refine qZ9 S ?_|with_reducible refine qZ9 y ?_|(with_reducible refine qV8 y ?_;rw[r])|wp_step)
 refine qX (U) ?_;refine S5 ?_;rcases V with rfl|F
 ·refine qX (D9 (by decide)) ?_;exact S5 (zS6 (l.hd.trans t) (w _ _ j b k D q))
 ·refine qY F λT z1 kT=>?_;clear F;subst z1;refine qX (A3 (show(Value.ref T !=Value.none)=true from by simp)) ?_;obtain⟨oT,ts,t1,t2,t3⟩:=(k.cells T _ kT).1;obtain⟨r2,f2⟩:=k.trbF (i:=3) (v:=(none:Option Addr).elim Value.none λf=>qZ2 f) kT;exact qV0 t1 t2 t3 (zS6 (l.hd.trans t) (w _ _ j b r2 (D.on f2.G9) q))
theorem Mu(j:Z.hd=none)(O:Z.Ok)(b:Ro Z.K 119 116=true)(g:iS Z.K=true)(c:bG Z.K=true)(i:Yn Z.K=true)(h:Pu Z.K 80 77=true)(d:qH1 Z.K (.ref 77)=true)(k:jG Z.K 119 52)(e:jG Z.K 119 89){a:AV}{Q:AV->St->Prop}
  (q:∀x f,f 89=some a->Q (.ref x) (H.xU 119 x f)):qB Z (n+3) 119 [a] H Q qM:=by
 have nA:=(qO (qO (qO b).1).1).1;refine Cg (n:=n+1) O b (Nat.le_of_ble_eq_true rfl) λx=>u9 j O g c i h d nA k e (bK ..) ⟨rfl,?_⟩;refine qX (rR) ?_;exact q x _ rfl
noncomputable def zN7(s:Stmt)(f:Expr->Bool):Bool:=if h:s.ctorIdx=16 then Stmt.Raise.elim (motive_2:=λ_=>Bool) s h (λx c _=>c.isNone&&pB x f) else false
@[elab_as_elim] theorem zF7{P:Stmt->Prop}(h:zN7 s f=true)(k:∀x p,f x=true->P (.Raise (some x) none p)):P s:=
 Ow h λe d=>Stmt.Raise.elim (motive_2:=λs=>∀h:s.ctorIdx=16,Stmt.Raise.elim (motive_2:=λ_=>Bool) s h (λx c _=>c.isNone&&pB x f)=true->P s) s e (λx c p _ d=>xJ (a:=c.isNone) (b:=pB x f) d λg i=>dU i λx h=>(E4.mp g).symm▸k x p h) e d
noncomputable def Sy:S:=.R7 (.N9 53) (.call (.R5 188 (.ref 49)) (.cons (.zO 1 (.R4 195 (.N9 51) 57) (.one 51) (.lst 18) (.R4 409 (.N9 151) 89) .nil) .nil))
noncomputable def Sj:Tt:=.val (.R6 .By (.N9 53) (.R3 .none))
noncomputable def Sv:X:=.call (.R5 156 (.ref 119)) (.cons (.call (.R5 241 (.ref 423)) (.cons (.N9 151) .nil)) .nil)
noncomputable def Vn(K:Frag):Bool:=nO K 428 λfd a=>dK K [(false,151)] [] fd&&yR a λc l=>yR l λd _=>Bo K fd.scope.names Sy c&&Kc d λt b _ _=>Yy K Sj fd.scope.names t&&yR b λr _=>zN7 r λx=>yJ K Sv fd.scope.names x
noncomputable def Wa:Nat->S
 |0=>.expr (.call (.R5 227 (.ref 385)) (.cons (.N9 151) .nil))
 |1=>.Jr (.val (.call (.R5 206 (.ref 435)) (.cons (.N9 151) .nil))) (.cons (.expr (.call (.R5 227 (.ref 385)) (.cons (.N9 151) .nil))) .nil)
 |2=>.R7 (.N9 81) (.call (.R5 220 (.ref 418)) (.cons (.N9 151) .nil))
 |3=>.ite (.lst 32 (.N9 81)) (.cons (.ret (.call (.R5 224 (.ref 442)) (.cons (.N9 151) (.cons (.N9 81) .nil)))) .nil) .nil
 |_=>.ite (.val (.R6 (.iU 33 35) (.call (.R5 241 (.ref 423)) (.cons (.N9 151) .nil)) (.list 35 .nil))) (.cons (.ret (.R3 .none)) .nil) .nil
noncomputable def wR0:Ss:=.cons (Wa 0) (.cons (Wa 1) (.cons (Wa 2) (.cons (Wa 3) (.cons (Wa 4) .nil))))
noncomputable def ss:List S->Ss
 |[]=>.nil
 |s::r=>.cons s (ss r)
noncomputable def fR(K:Frag)(b:List (Str×NameKind)):List S->List Stmt->(List Stmt->Bool)->Bool
 |[],l,f=>f l
 |s::r,l,f=>yR l λa l=>Bo K b s a&&fR K b r l f
noncomputable def zN8:List S:=[Wa 0,Wa 1,Wa 2,Wa 3,Wa 4]
noncomputable def Vr(K:Frag):Bool:=nO K 449 λfd a=>dK K [(false,151)] [] fd&&yR a λs _=>oP s λt b o _=>o.isEmpty&&Yy K (.val (.R3 (.bool true))) fd.scope.names t&&fR K fd.scope.names zN8 b λl=>yR l λd _=>oG d λe _=>lU e&&nA e λg c=>vT g λ_ _=>gT K fd.scope.names 190 (.ref 428) g&&gE K (.cons (.N9 151) .nil) fd.scope.names c
theorem Su(d:Z.hd=none)(O:Z.Ok)(f:zV eV F ks){X:S}{s:Stmt}{r:Ss}{l:List Stmt}{Q Q2:Fl->M->St->Prop}(c:∀b m' H',b≠.next->Q b m' H'->Q2 b m' H')(e:Bo Z.K ks X s=true)(w:O6 Z n F qM (.cons X r) m Q H)
  (k:∀m' H',O6 Z n F qM r m' Q H'->qF Z n eV.locals m' (qQ8 l eV) H' (FQ Q2) R):qF Z n eV.locals m (qQ8 (s::l) eV) H (FQ Q2) R:=by
 refine yK ((soS d O f X e w).mono (λb m' g q=>?_) λ_ _ r=>r.elim);cases b with
 |next=>exact k m' g q
 |brk=>exact c _ _ _ (λh=>nomatch h) q
 |cont=>exact c _ _ _ (λh=>nomatch h) q
 |ret v=>obtain⟨a,i,q⟩:=q;exact(qZ a i (c _ _ _ (λh=>nomatch h) q))
theorem zM5{R:Value->St->Prop}(e:Z.hd=none)(O:Z.Ok)(g:zV eV F ks){f:List Stmt->Bool}{Q Q2:Fl->M->St->Prop}(h:∀c m' H',c≠.next->Q c m' H'->Q2 c m' H')(k:∀d m' H',f d=true->Q .next m' H'->qF Z n eV.locals m' (qQ8 d eV) H' (FQ Q2) R):
  ∀{X:List S}{l:List Stmt}{m:M}{H:St},fR Z.K ks X l f=true->O6 Z n F qM (ss X) m Q H->qF Z n eV.locals m (qQ8 l eV) H (FQ Q2) R:=by
 intro X;induction X with
 |nil=>
  intro l m H b w;exact k l m H b w
 |cons s r i=>
  intro l m H b w;exact xP b λa l b=>xJ b λj o=>Su e O g h j w λm' H' p=>i o p
theorem zR2{b:Flow}{m':M}{H':St}(q:FQ (λ_ _ _=>False) b m' H'):False:=by
 cases b with
 |ret v=>exact q.elim λa q=>q.2
 |_=>exact q
theorem wV1(k:Z.hd=none)(O:Z.Ok)(d:Vn Z.K=true){tk:AV}(u:∀e H',R e H'->∃a C g,e=.ref a∧H'.exc C a=some g)
  (w:wS Z n (λ_=>none) qM Sy (M.one 151 tk) (λj m' l=>j=.next∧wT Z n (λ_=>none) qM Sj m' (λc s=>c=true∧wE Z n (λ_=>none) qM Sv m' (λv h=>∃e C f,v=.ref e∧h.exc C e=some f∧fN Z.K C=true∧R (.ref e) h) s) l) H):qB Z (n+1) 428 [tk] H (λ_ _=>False) R:=by
 refine Mw (W:=λF m E H'=>wS Z n F qM Sy m (λj m' l=>j=.next∧wT Z n F qM Sj m' (λc s=>c=true∧wE Z n F qM Sv m' (λv h=>∃e C f,v=.ref e∧h.exc C e=some f∧fN Z.K C=true∧R (.ref e) h) s) l) H') (Q:=λ_ _=>False) (as:=[tk]) O d rfl u (λ_ _ _ q=>q) (λfd B K F m E H' y z _ w=>?_) w;refine xP y λL N d=>xP d λP S d=>xJ d λG d=>Rh d λt b o p d=>xJ d λI d=>xP d λr T d=>zF7 d λx U J=>yK ((soS k O z Sy G w).mono (λj m' l q=>?_) λ_ _ r=>r.elim);cases j with
 |next=>
  refine yK (wK1 ((L9 k O Sj I z q.2).mono (λc s D=>?_) λ_ _ r=>r.elim));refine qX (A3 D.1) ?_;refine yK (zX8 k O ((yH k O Sv J z D.2).vq λv a h i A=>?_));obtain⟨e,C,f,rfl,A⟩:=A;exact pQ i (jN e C f rfl A)
 |ret v=>exact q.elim λa q=>nomatch q.2.1
 |_=>exact nomatch q.1
theorem Cn(u:Z.hd=none)(O:Z.Ok)(t:zV eV F ks)(c:(yR l λs _=>oG s λe _=>lU e&&nA e λg b=>vT g λ_ _=>gT Z.K ks 190 (.ref 428) g&&gE Z.K (.cons (.N9 151) .nil) ks b)=true)(mt:m 151=some tk)(h:qB Z n 428 [tk] H (λ_ _=>False) R):qF Z n eV.locals m (qQ8 l eV) H (FQ λ_ _ _=>False) R:=by
 refine xP c λs D c=>iM c λe E c=>xJ c λw c=>?_;refine gL (Rp c) λg b y d f j=>?_;subst d;refine yX (lW j) λx p d k=>?_;subst d;refine xJ k λo r=>xJ o λz A=>vG (Qt.symm.trans z) λ_ B C=>Lr B ?_;exact yK (Hp w t.kind ((Ra u O t f (by decide) (Jg C) A r ⟨tk,mt,rfl,rfl⟩ h).vq λv a G i q=>q.elim))
theorem wL0(u:Z.hd=none)(O:Z.Ok)(c:Vr Z.K=true){tk:AV}(i:∀e H',R e H'->∃a C g,e=.ref a∧H'.exc C a=some g)
  (w:O6 Z n (λ_=>none) qM wR0 (M.one 151 tk) (λf m' j=>f=.next∧m' 151=some tk∧qB Z n 428 [tk] j (λ_ _=>False) R) H):qB Z (n+1) 449 [tk] H (λ_ _=>False) R:=by
 refine Mw (W:=λF m d H'=>O6 Z n F qM (ss zN8) m (λf m' j=>f=.next∧m' 151=some tk∧qB Z n 428 [tk] j (λ_ _=>False) R) H') (Q:=λ_ _=>False) (as:=[tk]) O c rfl i (λ_ _ _ q=>q) (λfd z A F m d H' v k D w=>?_) w;refine xP v λs l c=>Lc c λt b o p c=>vG c λE G x=>jD E ?_;refine yK ((Rq (R:=R) (T:=λm' d H'=>wT Z n F qM (.val (.R3 (.bool true))) m' d H') (B:=λm' d H'=>qF Z n A.locals m' (qQ8 b A) H' (FQ d) R) (Q:=λ_ _ _=>False) (fuel:=1) (λ_=>D) i O k (λm' d H' y=>(L9 u O (.val (.R3 (.bool true))) G k y).mono (λ_ _ q=>q) λ_ _ r=>r.elim) (λm' d H' y=>y) ⟨true,rfl,?_⟩).qq λf m' j q=>(zR2 q).elim);show(if true=true then _ else _);refine qX (A3 rfl) ?_;exact(zM5 (Q2:=λ_ _ _=>False) u O k (λf m' H' h q=>h q.1) (λI m' H' c q=>Cn u O k c q.2.1 q.2.2) x w).qq λf m' j q=>(zR2 q).elim
noncomputable def Ctx.held(Z:Ctx)(e:Addr):Ctx:={Z with hd:=some (.ref e)}
section
variable{Z:Ctx}{ks:List (Str×NameKind)}
theorem Vs(O:Z.Ok):(Z.held e).Ok:=⟨O.X,O.ch,O.pos,O.rest,O.M3,O.G,O.B,O.mb,O.nolimit,O.bmain⟩
theorem Rep.held{κ:Kp}{s:S8}{e:Addr}(h:Rep Z κ s H):Rep (Z.held e) κ s H:=⟨h.old,λa c k=>by
 refine qK (h.cells a c k) λp r=>?_;refine⟨?_,r⟩;cases c<;>exact p,h.view,h.gens,h.os⟩
theorem Rep.Mk(h:Rep (Z.held e) κ s H):Rep Z κ s H:=⟨h.old,λa c k=>by
 refine qK (h.cells a c k) λp r=>?_;refine⟨?_,r⟩;cases c<;>exact p,h.view,h.gens,h.os⟩
theorem Ml(a:Rep Z κ s H)(j:H.exc C e=some f)(h:∀h',Rep Z κ {s with heap:=h'} H->jO κ s.heap κ h'->Q () {s with heap:=h'}):D8 MO A (qI0 (.ref e) fr) Q E s:=by
 obtain⟨o,k,c,n,p,b,d,q,x,⟨g,r⟩,l⟩:=vP a j;rcases l with rfl|i
 ·unfold qI0;refine R8 (qY1 b d g ?_);refine qX (D9 (by decide)) ?_;exact S5 (h s.heap a .refl)
 ·refine qY i λT m kT=>?_;clear i;subst m;exact nY a (Km o k T b d g kT) h
theorem Cr(O:Z.Ok)(z:zV eV F ks){h:Nat}{C a:Addr}{f:M}{x pos:Pos}(l:h<NN)(j:ks.lookup (nm h)=some .globalImplicit)(m:gM Z.K h (.ref C)=true)(nA:fN Z.K C=true)
  {A:O3} {RR:qL4->S8->Prop} {κ:Kp} {s:S8} (t:uW (Z.held a) A n) (p:mA (Z.held a) κ A s.heap) (r:Rep (Z.held a) κ s H) (B:H.exc C a=some f) (k:∀e b,Rep (Z.held a) b e H->yL κ s.heap b e.heap->RR (.ok .brk) e):
  qW6 (model O7 Z.w) A (.handlers (.ref a) [.ExceptHandler (some (.Name (nm h) x)) none [] pos] eV) RR s:=by
 have D:(Z.held a).Ok:=Vs O;refine codeAny_handlers_test ((R9.Qb (Q:=λv E=>v=.ref C∧E=H) (sK (Z:=Z.held a) (n:=n) (lc:=none) (R:=qM) (H:=H) (pos:=x) (a:=.ref C) D z l j m ⟨rfl,rfl⟩) λv i=>⟨i.zT,rfl⟩) _ _ _ κ _ t p r trivial (λc e b W u G y=>?_) (λ_ _ _ _ _ _ q=>q.elim));refine qK y λI J=>?_;clear y;subst I;subst J;obtain⟨_,_,_,_,K,_,_,_,_,_,_,_,_,_,_,_,_,w,g⟩:=iR (O.X.keeps u.Mk.old) nA;refine qK (Vm g) λL d=>?_;obtain⟨o,X,c,Y,hc,N,e2,P,x1,⟨e4,c4⟩,e5⟩:=vP u.Mk B;have S:=k e b u G;obtain⟨T,g4,d4,U,V⟩:=e;exact wpAny_excMatches_sub_self w N P d S
theorem Cs{T:Prop}(G:T)(O:Z.Ok)(B:zV eV F ks){j:Nat}{C a:Addr}{f:M}{d:Stmt}{c:List Stmt}{pos:Pos}{Qs:Flow->St->Prop}(u:j<NN)(p:ks.lookup (nm j)=some .local)(I:qF (Z.held a) n eV.locals (up m j (.ref a)) (qQ8 (d::c) eV) H (λg _ r=>Qs g r) qM)
  {A:O3} {RR:qL4->S8->Prop} {κ:Kp} {s:S8} (k:uW (Z.held a) A n) (i:mA (Z.held a) κ A s.heap) (D:Rep (Z.held a) κ s H) (K:wN κ s.heap eV.locals m) (w:Z.h₀.get? eV.locals=none) (J:H.exc C a=some f)
  (E:∀g e b l t,Rep (Z.held a) b e l->vN T eV.locals κ s.heap b e.heap->wN b e.heap eV.locals t->Qs g l->RR (.ok g) e):
  qW6 (model O7 Z.w) A (.handlers (.ref a) [.ExceptHandler none (some (nm j)) (d::c) pos] eV) RR s:=by
 refine codeAny_handlers_suite_as ?_;refine Ml D J λh5 L o=>?_;refine Jo (Z:=Z.held a) (R:=qM) (m:=m) B u p (.ref a) (Q:=λ_ N P=>N=up m j (.ref a)∧P=H) ⟨rfl,rfl⟩ A _ _ κ _ k (i.tJ o) L (K.tJ o) ⟨w,λh=>h.elim λ_ h=>h.elim λ_ q=>q.elim⟩ (λ_ S v H6 m6 U x y z=>?_) (λ_ _ _ _ _ _ q=>q.elim);refine qK z λV W=>?_;clear z;subst V;subst W;exact I A _ _ v S k ((i.tJ o).Bn x y) U y ⟨w,λh=>h.elim λ_ h=>h.elim λ_ q=>q.elim⟩ (λg e b l t X Y l7 q7=>E g e b l t X (((o.toT G).trans (x.le λh=>h.elim λ_ h=>h.elim λ_ q=>q.elim)).trans (Y.le λh=>h.elim λ_ h=>h.elim λ_ q=>q.elim)) l7 q7) (λ_ _ _ _ _ _ q=>q.elim)
theorem k8{T:Prop}(T1:T)(O:Z.Ok)(D:zV eV F ks){h G:Nat}{C a:Addr}{f:M}{d:Stmt}{b:List Stmt}{p3 pos:Pos}{Q:Fl->M->St->Prop}
  (o:h<NN) (l:ks.lookup (nm h)=some .local) (L:G<NN) (K:ks.lookup (nm G)=some .globalImplicit) (N:gM Z.K G (.ref C)=true) (nA:fN Z.K C=true)
  (hH:qF (Z.held a) n eV.locals (up m h (.ref a)) (qQ8 (d::b) eV) H (λJ _ i=>∃v a,J=.ret v∧Is v a∧∀k,Q (.ret a) k i) qM)
  {A:O3} {E:Value->S8->Prop} {Qc:Flow->S8->Prop} {κ:Kp} {s:S8} (hA:uW Z A n) (hF:mA Z κ A s.heap) (r:Rep Z κ s H) (l3:wN κ s.heap eV.locals m) (h0:Z.h₀.get? eV.locals=none) (p:H.exc C a=some f)
  (kq:∀v I g H' m',Rep Z g I H'->vN T eV.locals κ s.heap g I.heap->wN g I.heap eV.locals m'->FQ Q v m' H'->Qc v I):
  D8 (model O7 Z.w) A (handleBy (.ref a) eV [.ExceptHandler (some (.Name (nm G) p3)) (some (nm h)) (d::b) pos]) Qc E s:=by
 have t:uW (Z.held a) (A.mark (some (.ref a))) n:=⟨hA.depth,hA.units,rfl⟩;have u:mA (Z.held a) κ (A.mark (some (.ref a))) s.heap:=by
  obtain⟨c,q,r⟩:=hF;exact⟨c,q,λeV p=>⟨(r eV p).kind,(r eV p).at_⟩⟩
 refine wpAny_handleBy_cons (Cr (n:=n) O D L K N nA t u r.held p λs4 aa r4 P=>?_) (λq=>nomatch q);refine Cs (n:=n) (Qs:=λJ i=>∃v a,J=.ret v∧Is v a∧∀k,Q (.ret a) k i) T1 O D o l hH t (u.pT P) r4 (wN.pT l3 P) h0 p λJ s7 R H7 m7 r7 f7 l7 S=>?_;obtain⟨v',a',rfl,iv,S⟩:=S;obtain⟨k7,mm,B,U⟩:=l7;refine wpAny_nameGoes_keeps ((cgA (qF6 (nm h)) D.names).trans l) B (qX D.kind rfl) λh8 v8 V W=>?_;obtain⟨o7,X,Y,e7,d7,_⟩:=id B;obtain⟨r8,f8⟩:=r7.Mk.Fc (tk:=s7.toks+1) k7 h0 (jN o7 X Y e7 d7) W.extBut;refine kq (.ret v') _ R H7 (λj=>if j=h then none else m7 j) r8 ((P.Ae.trans f7).trans f8.toT) ⟨k7,_,V,λj hj x e=>?_⟩ (qZ a' iv (S _));by_cases z:j=h
 ·rw[A3 z] at e;exact uZ e
 ·rw[D9 z] at e;refine qY (U j hj x e) λw hw iw=>?_;exact qZ w (qX (D9 (λy=>z (yI hj o y))) hw) iw
theorem wU5{W:Value->St->Prop}(O:Z.Ok)(EO:zV eV F ks)(fr:eV.frame=some eV.locals){k y w:Nat}{C:Addr}{v:Expr}{c:Stmt}{b:List Stmt}{V p2 p3 pos p:Pos}{Q:Fl->M->St->Prop}(g:∃e H,W e H)
  (hp:lK (.Name (nm k) V) v=true) (hk:k<NN) (hl:ks.lookup (nm k)=some .local) (U:y<NN) (N:ks.lookup (nm y)=some .local) (K:w<NN) (J:ks.lookup (nm w)=some .globalImplicit) (L:gM Z.K w (.ref C)=true) (nA:fN Z.K C=true)
  (h:R9 Z n (some (eV.locals,m)) (eval v eV) H (VQ λa z=>Q .next (up m k a) z) R) (I:∀e H',R e H'->∃a f,e=.ref a∧H'.exc C a=some f)
  (hH:∀e H',R (.ref e) H'->qF (Z.held e) n eV.locals (up m y (.ref e)) (qQ8 (c::b) eV) H' (λfl _ P=>∃v a,fl=.ret v∧Is v a∧∀S,Q (.ret a) S P) qM):
  qF Z n eV.locals m (exec (.Try [.Assign [.Name (nm k) V] v p2] [.ExceptHandler (some (.Name (nm w) p3)) (some (nm y)) (c::b) pos] [] [] p) eV) H (FQ Q) W:=by
 rw[arm_exec_Try];refine qF.standAt ?_;intro A E Qc κ s X B hR j Y kq kx;refine wpAny_tryStmt_except ?_;rw[execs_cons,Ao hp];refine yX (Y.hd g) λe0 aa ef ab=>?_;obtain⟨D,eo,ho⟩:=id B;obtain rfl:=sj ef eo;refine R8 (R8 (qY9 (R8 (h A _ _ κ s X B hR j (λx s1 t z r1 d G=>?_) (λev s1 t z r1 d G=>?_)))))
 ·refine qY G λa i q=>?_;refine R8 (kW (pos:=V) (sL EO hk hl i (Q:=λ_ m' H'=>Q .next m' H') q) A _ _ t s1 X (B.pT d) r1 (wN.pT j d) ⟨Y.h0,λv0=>Wr v0 λ_ _ q=>q.elim⟩ (λ_ s2 o H2 m2 r2 u l2 q2=>S5 ?_) (λ_ _ _ _ _ _ q=>q.elim));show D8 _ A (qQ8 [] eV) _ _ _;rw[qB4];refine S5 ?_;show D8 _ A (qQ8 [] eV) _ _ _;rw[qB4];exact S5 (kq _ s2 o H2 m2 r2 (d.Ae.trans (u.le λv0=>Wr v0 λ_ _ q=>q.elim)) l2 q2)
 refine yX (I ev z G) λa f z1 he=>?_;subst z1;refine Vz O r1 he ef (λx hx=>(ho x hx).tJ d) fr (ab.trans fr.symm) λh2 o r2 u t2=>?_;exact nY r2 t2 λh3 r3 f3=>k8 (κ:=o) (T:=∃e H,W e H) g O EO U N K J L nA (hH a _ G) X (B.tJ ((d.trans u).trans f3)) r3 (j.tJ ((d.trans u).trans f3)) Y.h0 he λv s' ac H' m' r f l q=>kq v s' ac H' m' r ((((d.trans u).trans f3).toT g).trans f) l q
end
theorem Wi:entryFor table "proto.unchain"=some Builtin.«proto.unchain»:=entryFor_of_fast (by kernel_rfl)
theorem Mp{l:qQ2}{A:O3}{E:Value->S8->Prop}{s:S8}{α:Type}{Q:α->S8->Prop}{a e:Addr}{o g:Obj}{vs ws:Array Value}(m:A.handled=some (.ref e))(d:a≠e)(i:s.heap.get? e=some o)(h:o.data=.fields vs)(k:vs[2]?=some .none)
  (f:s.heap.get? a=some g) (c:g.data=.fields ws) (b:2<ws.size) (j:E (.ref a) {s with heap:=s.heap.update a (Obj.mapFields (·.setIfInBounds 2 (.ref e)))}):D8 (model O7 l) A (raiseNew (.ref a):Sem α) Q E s:=by
 unfold raiseNew;refine R8 (wpAny_handled ?_);refine qX (m) ?_;have n:(Value.ref e !=Value.ref a)=true:=by simp[qN6 d]
 dsimp only;refine qX (A3 n) ?_;refine R8 (O4 (wpAny_runValue (qP2 Wi ?_)));refine R8 (qY1 i h k ?_);refine qX (A3 (by decide)) ?_;refine R8 (S5 (S5 ?_));refine R8 ?_;unfold updateField;refine R8 (qE5 f ?_);refine qX (c) ?_;dsimp only;refine qX (A3 b) ?_;exact zQ3 f (wpAny_throw j)
theorem Qo{w:qQ2}{A:O3}{E:Value->S8->Prop}{s:S8}{it e:Addr}{x c step:Int}{o:Obj}{vs:Array Value}{Q:Option Value->S8->Prop}(r:A.handled=some (.ref e))(g:s.heap.get? e=some o)(l:o.data=.fields vs)(p:vs[2]?=some .none)(hit:qC0 s.heap it x c step)(d:c≤0)
  (t:∀h',qW0 it s.heap h'->Q none {s with heap:=h'}):D8 (model O7 w) A (qR4 (.ref it)) Q E s:=by
 have i:s.TypeIs (.ref it) "range_iterator":=(qZ _ hit rfl);unfold qR4;refine R8 (qN7 (qY0 (name:=Str.ofString "__next__") i F.slot_range_iterator_next
  (qQ9 F.slot_range_iterator_next i F.entry_range_iterator_next ?_ (F.args_range_iterator_next_1 _))))
 show D8 _ _ (field (.ref it) 0>>=_) _ _ s;refine R8 (qY1 hit rfl (x:=qZ2 x) rfl ?_);show D8 _ _ (field (.ref it) 1>>=_) _ _ s;refine R8 (qY1 hit rfl (x:=qZ2 c) rfl ?_);show D8 _ _ (field (.ref it) 2>>=_) _ _ s;refine R8 (qY1 hit rfl (x:=qZ2 step) rfl ?_);show D8 _ _ (if c≤0 then _ else _) _ _ s;refine qX (A3 d) ?_;refine R8 (qE0 ?_);refine R8 ?_;refine R8 ?_;simp only[newExc,qM6];refine R8 (qQ4 ?_ (by size_fits));refine R8 (m:=qM8 _ _) (qM7 (a:=Value.none) (by first|rfl|(simp only[qM8];rfl)) ?_);refine qQ4 ?_ (by size_fits);have u:=((qW0.refl it s.heap).push {cls:=.type "tuple",data:=.seq ([]:List Value).toArray}).push {cls:=.type "StopIteration",data:=.fields (#[.ref s.heap.objs.size,.none,.none,.none,.bool false,.none]++zQ9 (.type "StopIteration") [])};have f:s.heap.get? (s.heap.push {cls:=.type "tuple",data:=.seq ([]:List Value).toArray}).objs.size=none:=qW8 (by simp);have j:((s.heap.push {cls:=.type "tuple",data:=.seq ([]:List Value).toArray}).push {cls:=.type "StopIteration",data:=.fields (#[.ref s.heap.objs.size,.none,.none,.none,.bool false,.none]++zQ9 (.type "StopIteration") [])}).get? (s.heap.push {cls:=.type "tuple",data:=.seq ([]:List Value).toArray}).objs.size=some _:=B3 _ rfl;have v:=S7 (h:=s.heap.push {cls:=.type "tuple",data:=.seq ([]:List Value).toArray}) {cls:=.type "StopIteration",data:=.fields (#[.ref s.heap.objs.size,.none,.none,.none,.bool false,.none]++zQ9 (.type "StopIteration") [])} (S7 {cls:=.type "tuple",data:=.seq ([]:List Value).toArray} g);refine Mp (o:=o) (vs:=vs) r (by intro q;rw[q,g] at f;cases f) v l p j rfl (by show 2<_;simp;exact Nat.le_add_left (Nat.succ 2) 3) ?_;have y:=D7 (Obj.mapFields (·.setIfInBounds 2 (.ref e))) j rfl;refine R8 (wM2 (T:="StopIteration") (b:=true) (qZ _ y rfl) isSubtype_stop ?_);refine S5 (t _ λb B n k=>?_);refine qX (qX8 _ _ (λz=>uZ (f.symm.trans (z▸k)))) ?_;exact u b B n k
section
variable{Z:Ctx}
theorem Wk.rngH:Wk (Z.held e) I (λH=>∃C f,H.exc C e=some f) (lY j) (λi h=>qC0 h I (0+(i:Nat)*1) ((j.toNat:Int)-(i:Nat)) 1) where
 frame:=λi h d hP k=>k _ hP
 live:=λi h hP=>yU _ hP
 plain:=λi h hP=>xO _ _ hP rfl (by decide)
 self:=λA E s i Q _ hP u=>zQ2 hP u
 uD:=λi h q hP=>hJ hP rfl (by simp[qZ2]) q
 nd:=λi h hP=>Lv hP rfl
 item:=λA E w s H i v Q r t g z hP a k=>by
  unfold lY at a;rw[D4] at a;have l:i<j.toNat:=by
   cases e:(B4 j.toNat)[i]? with
   |none=>rw[e] at a;cases a
   |some y=>rw[C7] at e;simpa using e.1
  rw[qJ6 l] at a;cases a;refine wpAny_pyNext_range_item hP (by lia) λd hit B=>k _ d _ ?_ ?_ λb o D e=>B.extBut b o D e
  ·have:(0+(i:Int)*1)=(i:Int):=by lia
   exact qX (this) (.int _ _)
  ·have m:0+((i+1:Nat):Int)*1=0+(i:Int)*1+1:=by push_cast;exact rfl
   have p:(j.toNat:Int)-((i+1:Nat):Int)=(j.toNat:Int)-(i:Int)-1:=by push_cast;lia
   exact qX (m) (qX (p) (hit))
 done:=λA E w s H Q r t g z hP k=>by
  refine Wr g λC f g=>?_;have F:(lY j).length=j.toNat:=by simp[lY]
  replace hP:=F▸hP;obtain⟨o,K,c,L,M,m,p,N,x,⟨O,G⟩,P⟩:=vP t g;exact Qo r m p G hP (by lia) λd J=>k d s.toks λb o n e=>J b o n e
end
inductive mG:X->Prop where
 |R3 {a:AV}:mG (.R3 a)
 |N9 {k:Nat}:mG (.N9 k)
 |qG {k:Nat}:mG (.qG k)
 |wZ {g:Nat} {e i:X}:mG e->mG i->mG (.wZ g e i)
 |qA {g:Nat} {e i:X}:mG e->mG i->mG (.qA g e i)
 |bin {o:L5} {a b:X}:mG a->mG b->mG (.bin o a b)
 |R6 {o:COp} {a b:X}:mG a->mG b->mG (.R6 o a b)
theorem soC(O:Z.Ok)(c:mG x):∀{i:List (Str×NameKind)}{e:Expr}{eV:Env}{m:M}{H:St}{Q:AV->St->Prop},yJ Z.K x i e=true->zV eV F i->wE Z n F qM x m Q H->R9 Z n (some (eV.locals,m)) (eval e eV) H (VQ Q) qM:=by
 induction c with
 |R3=>
  intro i e eV m H Q f d w;refine nU f λc kd p A=>?_;exact kF A w
 |N9=>
  intro i e eV m H Q f d w;refine yW f λp D E=>?_;obtain⟨a,W,w⟩:=w;exact Xo d D E W w
 |@qG k=>
  intro i e eV m H Q f d w;obtain⟨p,rfl,D,E⟩:∃p,e=.Name (nm k) p∧k<NN∧(i.lookup (nm k)=some .cell∨i.lookup (nm k)=some .free):=by
   rcases(Bool.or_eq_true ..).mp f with h|h
   ·refine yW h λp D E=>?_;exact zU p rfl D (.inl E)
   ·refine yW h λp D E=>?_;exact zU p rfl D (.inr E)
  obtain⟨c,hc,o,ho,a,W,w⟩:=w;subst W;exact Av d D E hc ho w
 |wZ _ _ G I=>
  intro i X eV m H Q f d w;refine yS f λv s p J K=>?_;refine pH ((G J d w).mono (λv Y q=>?_) λ_ _ r=>r);refine qY q λa L q=>?_;refine(I K d q).mono (λu H2 q=>?_) λ_ _ r=>r;refine qY q λb N g=>?_;clear q;refine qY g λt ht B=>?_;clear g;refine qY B λvs hv C=>?_;clear B;refine qY C λj hj U=>?_;clear C;refine qY U λx V P=>?_;clear U;obtain rfl:=jA ht;obtain rfl:=lI hj;exact An O L N hv V P
 |qA _ _ G I=>
  intro i X eV m H Q f d w;refine yS f λv s p J K=>?_;refine pH ((G J d w).mono (λv Y q=>?_) λ_ _ r=>r);refine qY q λa L q=>?_;refine(I K d q).mono (λu H2 q=>?_) λ_ _ r=>r;refine qY q λb N g=>?_;clear q;refine qY g λt ht B=>?_;clear g;refine qY B λl hv C=>?_;clear B;refine qY C λj hj U=>?_;clear C;refine qY U λx V P=>?_;clear U;obtain rfl:=jA ht;obtain rfl:=iP hj;exact Ar O L N hv V P
 |bin _ _ R S=>
  intro i X eV m H Q f d w;refine iH f λl o r p A=>?_;refine qK (qO A) λT K=>qK (qO T) λh0 J=>?_;obtain rfl:=Rn h0;refine zM9 ((R J d w).mono (λv Y q=>?_) λ_ _ r=>r);refine qY q λa' L q=>?_;refine(S K d q).mono (λu H2 q=>?_) λ_ _ r=>r;refine qY q λb' N g=>?_;clear q;refine qY g λx V B=>?_;clear g;refine qY B λy hy C=>?_;clear B;refine qY C λz hz P=>?_;clear C;obtain rfl:=lI V;obtain rfl:=lI hy;exact Ni L N hz P
 |R6 _ _ R S=>
  intro i X eV m H Q f d w;refine tW (iJ f) λl os rs p g A=>?_;subst g;refine jZ A λo T=>?_;refine jZ T λr aa=>?_;refine qK (qO aa) λab K=>qK (qO ab) λac J=>qK (qO ac) λh0 hm=>?_;obtain rfl:=beq_iff_eq.mp h0;have hm:=beq_iff_eq.mp hm;refine At (.inr trivial) ((R J d w).mono (λv Y q=>?_) λ_ _ r=>r);refine qY q λa' L q=>?_;refine qX (qI3 hm) ?_;refine(S K d q).mono (λu H2 q=>?_) λ_ _ r=>r;refine qY q λb' N g=>?_;clear q;refine qY g λr hr P=>?_;clear g;exact Am O L N hr P
theorem zK9(O:Z.Ok)(c:mG x)(e:Lm Z.K (.cons (.val x) .nil) ks es=true)(f:zV eV F ks)(w:xT Z n F qM (.cons (.val x) .nil) m Q H):R9 Z n (some (eV.locals,m)) (xY eV es true) H Q qM:=by
 refine xP e λt es g=>?_;refine qK (qO g) λh j=>?_;obtain rfl:=E6.mp j;refine qK (qO h) λk l=>?_;have o:wE Z n F qM x m (λv d=>T9 (qL1 d v) λb=>if b=true then Q true d else Q false d) H:=w;refine Qw ((Ac k ((soC O c l f o).mono (λv d q=>?_) λ_ _ r=>r)));refine qY q λa i p=>qY p λb s q=>?_;refine lV i s ?_;cases b with
 |true=>simp only[if_true] at q⊢;exact nV q
 |false=>simpa using q
theorem l4(O:Z.Ok){C k:Nat}{t:Addr}{f:M}{a:AV}{ex:Bool}{lc:Option (Addr×M)}{H:St}{R:Value->St->Prop}{Q:AV->St->Prop}(e:jG Z.K C k)(j:k<NN)(h:H.exc C t=some f)(b:f k=some a)(q:Q a H):
  R9 Z n lc (qN0 (.ref t) (nm k) ex) H (VQ Q) R:=by
 intro A E K m s L N c P p S;rcases c.view.exc C t f h with⟨T,rfl⟩|⟨d,l,r,u,rfl⟩
 ·first|exact uZ b|exact Bool.noConfusion b|exact nomatch b|(obtain rfl:=B5 b)|exact(b).elim
 refine Fs ((c.cells t _ r).1) λo U w x y z V=>qY ((c.cells d _ u).1) λg B D=>gL (qV2 B) λF W X G Y J=>?_;have I:InstAt s.heap t o C (some F):=⟨w,x,by unfold notCls;rw[z],qX y G⟩;have o:=vZ D j;replace o:=b▸o;cases i:qU3 g (nm k) with
 |none=>rw[i] at o;first|exact uZ o|exact Bool.noConfusion o|exact nomatch o|(obtain rfl:=B5 o)|exact(o).elim
 |some v=>
  replace o:=i▸o;cases o with
  |some o=>exact zP2 (O.X.keeps c.old) e I (findObj_own e.hd e.no rfl (by rw[J,i])) o.handed (p v _ m H c.toks (yL.refl _ _) (qZ a o q))
noncomputable def l8:X:=.bin .add (.N9 4) (.R3 (.int 1))
noncomputable def hIf:X:=.R6 (.N5 60) (.N9 7) (.R3 (.str 88))
noncomputable def Pp:X:=.R6 .tU (.wZ 52 (.qA 49 (.qG 25) (.R3 (.str 86))) (.N9 4)) (.R3 (.str 32))
noncomputable def l9:X:=.R6 (.iU 47 58) (.qG 54) (.qA 49 (.qG 25) (.R3 (.str 54)))
noncomputable def Zq(K:Frag)(a:List (Str×NameKind))(g:Nat)(l:List Stmt):Bool:=yR l λh l=>yR l λi l=>l.isEmpty&&
 eF h (λf v _=>wC f λj=>hM K a (.N9 152) (.zO 76 l8 (.one 4) .dZ (.qG 49) (.cons (.val Pp) .nil)) j v)&&
 sQ i λv _=>pB v λe=>lD e λo c _=>(o==.And)&&yR c λk c=>yR c λm c=>wC c λn=>yJ K hIf a k&&yJ K l9 a n&&
  oJ m λl os p _=>wC os λo=>wC p λr=>(o==.Eq)&&(qU1 o r==false)&&jM a 152 .local r&&gP l λb d _=>jM a g .local b&&gN b&&sE d (nm 89)
end
noncomputable def P3:List (Frag->Bool):=[
 λK=>qH K 28 [(false,47)] [] tE,
 λK=>qH K 42 [(false,66),(false,56)] [] tA,
 λK=>qH K 49 [(false,91)] [] aQ,
 λK=>qH K 56 [(false,66),(false,53)] [] tI,
 λK=>qH K 63 [(false,66),(false,53)] [] Lo,
 λK=>qH K 135 [(false,47),(false,113),(false,102),(false,124),(false,9),(false,126)] [] pA,
 λK=>qH K 149 [(false,115),(false,26)] [] tO,
 λK=>qH K 154 [(false,115),(true,26)] [26] rY,
 λK=>qH K 161 [(false,115),(false,9)] [] bQ,
 λK=>qH K 168 [(false,115),(false,9)] [] rJ,
 λK=>qH K 173 [(false,115)] [71] hO,
 λK=>qH K 178 [(false,115),(false,69)] [71] aZ,
 λK=>qH K 192 [(false,47),(false,113),(false,41),(false,112)] [] pI,
 λK=>qH K 206 [(false,51),(false,99),(false,116)] [] Yg,
 λK=>qH K 213 [(false,26),(false,116)] [] rV,
 λK=>qH K 220 [(false,51)] [] bZ,
 λK=>qH K 227 [(false,26)] [] rU,
 λK=>qH K 234 [(false,151),(false,51)] [] aW,
 λK=>qH K 241 [(false,151),(false,51),(false,56)] [] bW,
 λK=>qH K 248 [(false,51)] [] bX,
 λK=>qH K 262 [(false,47),(false,113),(false,78)] [] rK,
 λK=>qH K 276 [(false,151),(false,41),(false,112),(false,36)] [] aX,
 λK=>qH K 283 [(false,181),(false,73)] [] pO,
 λK=>qH K 290 [(false,51),(false,203)] [] gQ,
 λK=>qH K 295 [(false,112)] [] Mx,
 λK=>qH K 302 [(false,51)] [] Pq,
 λK=>qH K 309 [(false,112)] [] Vf,
 λK=>qH K 316 [(false,51)] [] fL,
 λK=>qH K 323 [(false,51)] [] fP,
 λK=>qH K 330 [(false,51)] [] Yh,
 λK=>qH K 337 [(false,51)] [] mQ,
 λK=>qH K 344 [(false,151)] [] pZ,
 λK=>qH K 349 [(false,151)] [] rP,
 λK=>qH K 354 [(false,51)] [] aB,
 λK=>qH K 361 [(false,51)] [] My,
 λK=>qH K 366 [(false,151)] [] fG,
 λK=>qH K 373 [(false,51)] [] bY,
 λK=>qH K 378 [(false,151)] [] kP,
 λK=>qH K 385 [(false,151)] [] mZ,
 λK=>qH K 399 [(false,47),(false,110),(false,104)] [] mW,
 λK=>qH K 406 [(false,47)] [] rG,
 λK=>qH K 418 [(false,151)] [] rF,
 λK=>qH K 423 [(false,151)] [] fF,
 λK=>qH K 428 [(false,151)] [] aY,
 λK=>qH K 435 [(false,151)] [] bJ,
 λK=>qH K 442 [(false,151),(false,81)] [] mX,
 λK=>qH K 449 [(false,151)] [] mY,
 λK=>qH K 485 [(false,47),(false,113),(false,136)] [] uY,
 λK=>qH K 499 [(false,90),(false,166)] [] aJ,
 λK=>qH K 506 [(false,90),(false,51),(false,166)] [] Ym,
 λK=>qH K 513 [(false,90),(false,51),(false,166)] [] Qe,
 λK=>qH K 518 [(false,90),(true,51)] [51] mJ,
 λK=>qH K 523 [(false,90)] [] Pz,
 λK=>qH K 530 [(false,151),(false,90),(false,102),(false,9),(false,126),(false,56)] [] aV,
 λK=>qH K 537 [(false,151),(false,90),(false,102),(false,9),(false,126),(false,56)] [] gZ,
 λK=>qH K 544 [(false,151),(false,90),(false,102),(false,9),(false,126),(false,56)] [] pW,
 λK=>qH K 551 [(false,26)] [] fH,
 λK=>qH K 558 [(false,90),(false,139)] [] rH,
 λK=>qH K 565 [(false,26),(false,116)] [] bV,
 λK=>qH K 574 [(false,58),(false,39)] [] Qa,
 λK=>qH K 581 [(false,82),(false,41),(false,145)] [] mV,
 λK=>qH K 581 [(false,82),(false,41),(false,145)] [] mU,
 λK=>qH K 588 [(false,58),(false,49)] [] aU,
 λK=>qH K 593 [(true,90)] [90] rM,
 λK=>qH K 607 [(false,151),(false,90),(false,51),(false,82),(false,54),(false,17)] [] aK,
 λK=>qH K 619 [(false,25),(false,19),(false,99)] [] aL,
 λK=>qH K 624 [(false,25),(true,82)] [82,145,76] pX,
 λK=>qH K 631 [(false,25),(false,82),(false,19),(false,17)] [] fM,
 λK=>qH K 636 [(true,25),(false,82)] [25,19] pY,
 λK=>qH K 643 [(false,151),(false,90),(false,125),(false,25),(false,82),(false,54),(false,45),(false,19)] [] aP,
 λK=>x9 K 612 [(true,25)] [25] 41 vE (.R3 (.str 6)),
 λK=>lF K 31 28,
 λK=>lF K 138 135,
 λK=>lF K 195 192,
 λK=>lF K 265 262,
 λK=>lF K 409 399,
 λK=>lF K 488 485,
 λK=>Mj K 222 [9] [90,82] mP,
 λK=>Mj K 210 [81] [58,46] rN,
 λK=>Mj K 195 [77] [54,82] bU,
 λK=>j8 K 600 [(true,90),(true,82),(false,54)] [90,82] 222 [90,82] 599 uG
]
noncomputable def chk(K:Frag):Bool:=Xr K&&P3.all λf=>f K
structure Ctx.xR(Z:Ctx):Prop where
 hh:Z.hd=none
 ok:Z.Ok
 hc:Z.ch=chk
 c1:zQ8 Z.h₀ 599 595
 c2:zQ8 Z.h₀ 647 645
theorem qI{Z:Ctx}(T:Z.xR)(i:Nat){f:Frag->Bool}(e:P3[i]?=some f):f Z.K=true:=by
 have h:=T.ok.ch;rw[T.hc] at h;exact D5.mp (qO h).2 f (qJ0 e)
section
variable{Z:Ctx}(T:Z.xR)
include T
theorem Wo:qH Z.K 28 [(false,47)] [] tE=true:=qI T 0 rfl
theorem Xq:qH Z.K 42 [(false,66),(false,56)] [] tA=true:=qI T 1 rfl
theorem Vt:qH Z.K 49 [(false,91)] [] aQ=true:=qI T 2 rfl
theorem Xz:qH Z.K 56 [(false,66),(false,53)] [] tI=true:=qI T 3 rfl
theorem Ct:qH Z.K 63 [(false,66),(false,53)] [] Lo=true:=qI T 4 rfl
theorem bF:qH Z.K 135 [(false,47),(false,113),(false,102),(false,124),(false,9),(false,126)] [] pA=true:=qI T 5 rfl
theorem Xw:qH Z.K 149 [(false,115),(false,26)] [] tO=true:=qI T 6 rfl
theorem Zz:qH Z.K 154 [(false,115),(true,26)] [26] rY=true:=qI T 7 rfl
theorem Xx:qH Z.K 161 [(false,115),(false,9)] [] bQ=true:=qI T 8 rfl
theorem Zw:qH Z.K 168 [(false,115),(false,9)] [] rJ=true:=qI T 9 rfl
theorem aC:qH Z.K 173 [(false,115)] [71] hO=true:=qI T 10 rfl
theorem Vb:qH Z.K 178 [(false,115),(false,69)] [71] aZ=true:=qI T 11 rfl
theorem bH:qH Z.K 192 [(false,47),(false,113),(false,41),(false,112)] [] pI=true:=qI T 12 rfl
theorem Mg:qH Z.K 206 [(false,51),(false,99),(false,116)] [] Yg=true:=qI T 13 rfl
theorem Zx:qH Z.K 213 [(false,26),(false,116)] [] rV=true:=qI T 14 rfl
theorem Xy:qH Z.K 220 [(false,51)] [] bZ=true:=qI T 15 rfl
theorem Zy:qH Z.K 227 [(false,26)] [] rU=true:=qI T 16 rfl
theorem Vc:qH Z.K 234 [(false,151),(false,51)] [] aW=true:=qI T 17 rfl
theorem Xj:qH Z.K 241 [(false,151),(false,51),(false,56)] [] bW=true:=qI T 18 rfl
theorem Xv:qH Z.K 248 [(false,51)] [] bX=true:=qI T 19 rfl
theorem Zj:qH Z.K 262 [(false,47),(false,113),(false,78)] [] rK=true:=qI T 20 rfl
theorem Vd:qH Z.K 276 [(false,151),(false,41),(false,112),(false,36)] [] aX=true:=qI T 21 rfl
theorem bM:qH Z.K 283 [(false,181),(false,73)] [] pO=true:=qI T 22 rfl
theorem bN:qH Z.K 290 [(false,51),(false,203)] [] gQ=true:=qI T 23 rfl
theorem dG:qH Z.K 316 [(false,51)] [] fL=true:=qI T 27 rfl
theorem dF:qH Z.K 323 [(false,51)] [] fP=true:=qI T 28 rfl
theorem Mf:qH Z.K 330 [(false,51)] [] Yh=true:=qI T 29 rfl
theorem aE:qH Z.K 337 [(false,51)] [] mQ=true:=qI T 30 rfl
theorem sM:qH Z.K 344 [(false,151)] [] pZ=true:=qI T 31 rfl
theorem Zv:qH Z.K 349 [(false,151)] [] rP=true:=qI T 32 rfl
theorem dH:qH Z.K 366 [(false,151)] [] fG=true:=qI T 35 rfl
theorem mF:qH Z.K 378 [(false,151)] [] kP=true:=qI T 37 rfl
theorem aA:qH Z.K 385 [(false,151)] [] mZ=true:=qI T 38 rfl
theorem aI:qH Z.K 399 [(false,47),(false,110),(false,104)] [] mW=true:=qI T 39 rfl
theorem mH:qH Z.K 406 [(false,47)] [] rG=true:=qI T 40 rfl
theorem Zu:qH Z.K 418 [(false,151)] [] rF=true:=qI T 41 rfl
theorem dM:qH Z.K 423 [(false,151)] [] fF=true:=qI T 42 rfl
theorem Ve:qH Z.K 428 [(false,151)] [] aY=true:=qI T 43 rfl
theorem Xu:qH Z.K 435 [(false,151)] [] bJ=true:=qI T 44 rfl
theorem aO:qH Z.K 442 [(false,151),(false,81)] [] mX=true:=qI T 45 rfl
theorem Va:qH Z.K 449 [(false,151)] [] mY=true:=qI T 46 rfl
theorem gA:qH Z.K 485 [(false,47),(false,113),(false,136)] [] uY=true:=qI T 47 rfl
theorem Vi:qH Z.K 499 [(false,90),(false,166)] [] aJ=true:=qI T 48 rfl
theorem Mh:qH Z.K 506 [(false,90),(false,51),(false,166)] [] Ym=true:=qI T 49 rfl
theorem Pg:qH Z.K 513 [(false,90),(false,51),(false,166)] [] Qe=true:=qI T 50 rfl
theorem Vo:qH Z.K 518 [(false,90),(true,51)] [51] mJ=true:=qI T 51 rfl
theorem Cb:qH Z.K 523 [(false,90)] [] Pz=true:=qI T 52 rfl
theorem Uq:qH Z.K 530 [(false,151),(false,90),(false,102),(false,9),(false,126),(false,56)] [] aV=true:=qI T 53 rfl
theorem bR:qH Z.K 537 [(false,151),(false,90),(false,102),(false,9),(false,126),(false,56)] [] gZ=true:=qI T 54 rfl
theorem sN:qH Z.K 544 [(false,151),(false,90),(false,102),(false,9),(false,126),(false,56)] [] pW=true:=qI T 55 rfl
theorem dN:qH Z.K 551 [(false,26)] [] fH=true:=qI T 56 rfl
theorem Zk:qH Z.K 558 [(false,90),(false,139)] [] rH=true:=qI T 57 rfl
theorem Xk:qH Z.K 565 [(false,26),(false,116)] [] bV=true:=qI T 58 rfl
theorem Pf:qH Z.K 574 [(false,58),(false,39)] [] Qa=true:=qI T 59 rfl
theorem iQ:qH Z.K 581 [(false,82),(false,41),(false,145)] [] mV=true:=qI T 60 rfl
theorem iZ:qH Z.K 581 [(false,82),(false,41),(false,145)] [] mU=true:=qI T 61 rfl
theorem Uz:qH Z.K 588 [(false,58),(false,49)] [] aU=true:=qI T 62 rfl
theorem Zl:qH Z.K 593 [(true,90)] [90] rM=true:=qI T 63 rfl
theorem Uw:qH Z.K 607 [(false,151),(false,90),(false,51),(false,82),(false,54),(false,17)] [] aK=true:=qI T 64 rfl
theorem Ux:qH Z.K 619 [(false,25),(false,19),(false,99)] [] aL=true:=qI T 65 rfl
theorem sR:qH Z.K 624 [(false,25),(true,82)] [82,145,76] pX=true:=qI T 66 rfl
theorem dR:qH Z.K 631 [(false,25),(false,82),(false,19),(false,17)] [] fM=true:=qI T 67 rfl
theorem Uy:qH Z.K 636 [(true,25),(false,82)] [25,19] pY=true:=qI T 68 rfl
theorem Uj:qH Z.K 643 [(false,151),(false,90),(false,125),(false,25),(false,82),(false,54),(false,45),(false,19)] [] aP=true:=qI T 69 rfl
theorem iW:x9 Z.K 612 [(true,25)] [25] 41 vE (.R3 (.str 6))=true:=qI T 70 rfl
theorem Mm:lF Z.K 31 28=true:=qI T 71 rfl
theorem Zp:lF Z.K 138 135=true:=qI T 72 rfl
theorem Zg:lF Z.K 195 192=true:=qI T 73 rfl
theorem Ph:lF Z.K 265 262=true:=qI T 74 rfl
theorem Uv:lF Z.K 409 399=true:=qI T 75 rfl
theorem Zf:lF Z.K 488 485=true:=qI T 76 rfl
theorem Uu:Mj Z.K 222 [9] [90,82] mP=true:=qI T 77 rfl
theorem Zh:Mj Z.K 210 [81] [58,46] rN=true:=qI T 78 rfl
theorem Xl:Mj Z.K 195 [77] [54,82] bU=true:=qI T 79 rfl
theorem Zm:j8 Z.K 600 [(true,90),(true,82),(false,54)] [90,82] 222 [90,82] 599 uG=true:=qI T 80 rfl
end
section
variable(H:St)
theorem Mn(C:Nat)(a:Addr)(f:M)(t':Nat)(a':Addr):(H.qL C a f).obj t' a'=if t'=C∧a'=a then some f else H.obj t' a':=rfl
@[simp] theorem qJ(C:Nat)(a:Addr)(f:M):(H.qL C a f).obj C a=some f:=by simp[St.qL]
@[simp] theorem xE(C:Nat)(a:Addr)(f:M)(g:M):(H.qL C a f).qL C a g=H.qL C a g:=cgA (λo=>({H with obj:=o}:St)) (funext λ_=>funext λ_=>wZ3)
theorem Mr(t:Nat)(a:Addr)(f:List AV)(t':Nat)(a':Addr):(H.qQ t a f).lst t' a'=if t'=t∧a'=a then some f else H.lst t' a':=rfl
@[simp] theorem qW(t:Nat)(a:Addr)(f:List AV):(H.qQ t a f).lst t a=some f:=by simp[St.qQ]
theorem zE1(a:Addr)(f:List AV)(a':Addr):(H.zQ a f).tup a'=if a'=a then some f else H.tup a':=rfl
@[simp] theorem zN(a:Addr)(f:List AV):(H.zQ a f).tup a=some f:=by simp[St.zQ]
theorem wJ7(t:Nat)(a:Addr)(f:List (Nat×AV))(t':Nat)(a':Addr):(H.xV t a f).sd t' a'=if t'=t∧a'=a then some f else H.sd t' a':=rfl
@[simp] theorem xA(t:Nat)(a:Addr)(f:List (Nat×AV)):(H.xV t a f).sd t a=some f:=by simp[St.xV]
theorem wP3(t:Nat)(a:Addr)(f:List (Nat×Addr×AV))(t':Nat)(a':Addr):(H.xD t a f).td t' a'=if t'=t∧a'=a then some f else H.td t' a':=rfl
@[simp] theorem uF(t:Nat)(a:Addr)(f:List (Nat×Addr×AV)):(H.xD t a f).td t a=some f:=by simp[St.xD]
@[simp] theorem kY(a:Addr)(f:List (Int×AV)):(H.wR a f).yT a=some f:=by simp[St.wR]
@[simp] theorem rS(a:Addr)(f:List (Int×AV))(g:List (Int×AV)):(H.wR a f).wR a g=H.wR a g:=cgA (λo=>({H with yT:=o}:St)) (funext λ_=>wZ3)
theorem Ms(k:Nat)(a:Addr)(f:Option AV)(t':Nat)(a':Addr):(H.qU k a f).qG t' a'=if t'=k∧a'=a then some f else H.qG t' a':=rfl
@[simp] theorem qS(k:Nat)(a:Addr)(f:Option AV):(H.qU k a f).qG k a=some f:=by simp[St.qU]
theorem wF6(k:Nat)(a:Addr)(f:List (Nat×Addr))(t':Nat)(a':Addr):(H.lC k a f).fn t' a'=if t'=k∧a'=a then some f else H.fn t' a':=rfl
@[simp] theorem rT(k:Nat)(a:Addr)(f:List (Nat×Addr)):(H.lC k a f).fn k a=some f:=by simp[St.lC]
theorem zI4(a:Addr)(f:List (Nat×Addr))(a':Addr):(H.vQ a f).tab a'=if a'=a then some f else H.tab a':=rfl
theorem Kf{β:Type}{F:Nat->Addr->Option β}{k:Nat}{a l:Addr}{f:β}:(∀t x,(if t=k∧x=a then some f else F t x).isSome=true->(x=l)=False)↔(∀t x,(F t x).isSome=true->(x=l)=False)∧a≠l:=by
 refine⟨λh=>⟨λt x e=>?_,λe=>h k a (qX (A3 ⟨rfl,rfl⟩) rfl)▸e⟩,λy t x e=>?_⟩
 ·by_cases q:t=k∧x=a
  ·exact h t x (qX (A3 q) rfl)
  ·exact h t x (qX (D9 q) e)
 ·by_cases q:t=k∧x=a
  ·exact eq_false λz=>y.2 (q.2.symm.trans z)
  ·rw[D9 q] at e;exact y.1 t x e
theorem N6{β:Type}{F:Addr->Option β}{a l:Addr}{f:β}:(∀x,(if x=a then some f else F x).isSome=true->(x=l)=False)↔(∀x,(F x).isSome=true->(x=l)=False)∧a≠l:=by
 refine⟨λh=>⟨λx e=>?_,λe=>h a (qX (A3 rfl) rfl)▸e⟩,λy x e=>?_⟩
 ·by_cases q:x=a
  ·exact h x (qX (A3 q) rfl)
  ·exact h x (qX (D9 q) e)
 ·by_cases q:x=a
  ·exact eq_false λz=>y.2 (q.symm.trans z)
  ·rw[D9 q] at e;exact y.1 x e
theorem kN(C:Nat)(a:Addr)(f:M)(l:Addr):qD (H.qL C a f) l↔qD H l∧a≠l:=⟨λh=>⟨⟨(Kf.mp h.obj).1,h.lst,h.tup,h.sd,h.td,h.yT,h.qG,h.fn⟩,(Kf.mp h.obj).2⟩,λy=>⟨Kf.mpr ⟨y.1.obj,y.2⟩,y.1.lst,y.1.tup,y.1.sd,y.1.td,y.1.yT,y.1.qG,y.1.fn⟩⟩
theorem bS(C:Nat)(a:Addr)(f:List AV)(l:Addr):qD (H.qQ C a f) l↔qD H l∧a≠l:=⟨λh=>⟨⟨h.obj,(Kf.mp h.lst).1,h.tup,h.sd,h.td,h.yT,h.qG,h.fn⟩,(Kf.mp h.lst).2⟩,λy=>⟨y.1.obj,Kf.mpr ⟨y.1.lst,y.2⟩,y.1.tup,y.1.sd,y.1.td,y.1.yT,y.1.qG,y.1.fn⟩⟩
theorem Uk(a:Addr)(f:List AV)(l:Addr):qD (H.zQ a f) l↔qD H l∧a≠l:=⟨λh=>⟨⟨h.obj,h.lst,(N6.mp h.tup).1,h.sd,h.td,h.yT,h.qG,h.fn⟩,(N6.mp h.tup).2⟩,λy=>⟨y.1.obj,y.1.lst,N6.mpr ⟨y.1.tup,y.2⟩,y.1.sd,y.1.td,y.1.yT,y.1.qG,y.1.fn⟩⟩
theorem Pm(C:Nat)(a:Addr)(f:List (Nat×AV))(l:Addr):qD (H.xV C a f) l↔qD H l∧a≠l:=⟨λh=>⟨⟨h.obj,h.lst,h.tup,(Kf.mp h.sd).1,h.td,h.yT,h.qG,h.fn⟩,(Kf.mp h.sd).2⟩,λy=>⟨y.1.obj,y.1.lst,y.1.tup,Kf.mpr ⟨y.1.sd,y.2⟩,y.1.td,y.1.yT,y.1.qG,y.1.fn⟩⟩
theorem Pn(C:Nat)(a:Addr)(f:List (Nat×Addr×AV))(l:Addr):qD (H.xD C a f) l↔qD H l∧a≠l:=⟨λh=>⟨⟨h.obj,h.lst,h.tup,h.sd,(Kf.mp h.td).1,h.yT,h.qG,h.fn⟩,(Kf.mp h.td).2⟩,λy=>⟨y.1.obj,y.1.lst,y.1.tup,y.1.sd,Kf.mpr ⟨y.1.td,y.2⟩,y.1.yT,y.1.qG,y.1.fn⟩⟩
theorem Ul(a:Addr)(f:List (Int×AV))(l:Addr):qD (H.wR a f) l↔qD H l∧a≠l:=⟨λh=>⟨⟨h.obj,h.lst,h.tup,h.sd,h.td,(N6.mp h.yT).1,h.qG,h.fn⟩,(N6.mp h.yT).2⟩,λy=>⟨y.1.obj,y.1.lst,y.1.tup,y.1.sd,y.1.td,N6.mpr ⟨y.1.yT,y.2⟩,y.1.qG,y.1.fn⟩⟩
theorem Up(C:Nat)(a:Addr)(f:Option AV)(l:Addr):qD (H.qU C a f) l↔qD H l∧a≠l:=⟨λh=>⟨⟨h.obj,h.lst,h.tup,h.sd,h.td,h.yT,(Kf.mp h.qG).1,h.fn⟩,(Kf.mp h.qG).2⟩,λy=>⟨y.1.obj,y.1.lst,y.1.tup,y.1.sd,y.1.td,y.1.yT,Kf.mpr ⟨y.1.qG,y.2⟩,y.1.fn⟩⟩
theorem Pr(C:Nat)(a:Addr)(f:List (Nat×Addr))(l:Addr):qD (H.lC C a f) l↔qD H l∧a≠l:=⟨λh=>⟨⟨h.obj,h.lst,h.tup,h.sd,h.td,h.yT,h.qG,(Kf.mp h.fn).1⟩,(Kf.mp h.fn).2⟩,λy=>⟨y.1.obj,y.1.lst,y.1.tup,y.1.sd,y.1.td,y.1.yT,y.1.qG,Kf.mpr ⟨y.1.fn,y.2⟩⟩⟩
@[simp] theorem Xp(C:Nat)(a:Addr)(f:M)(C':Nat)(a':Addr)(f':List AV):(H.qL C a f).qQ C' a' f'=(H.qQ C' a' f').qL C a f:=rfl
end
theorem nG{inv:St->Prop}{body:AV->M->(Fl->M->St->Prop)->St->Prop}{Q:Fl->M->St->Prop}{vs:List AV}(I:Nat->M->St->Prop)
  (hi:∀k m H,k≤vs.length->I k m H->inv H)
  (step:∀k v m H K,vs[k]?=some v->I k m H->(∀m' H',I (k+1) m' H'->K .next m' H')->(∀a m' H',Q (.ret a) m' H'->K (.ret a) m' H')->body v m K H)
  (fin:∀m H,I vs.length m H->Q .next m H) {m:M} {H:St} (d:I 0 m H):fU inv body vs m Q H:=by
 have c:∀(r b:List AV),b++r=vs->∀m H,I b.length m H->fU inv body r m Q H:=by
  intro r;induction r with
  |nil=>
   intro b e m H h;rw[E7] at e;subst e;exact⟨hi _ _ _ (Nat.le_refl _) h,fin _ _ h⟩
  |cons v r f=>
   intro b e m H h;have g:b.length<vs.length:=by rw[<-e];simp
   refine⟨hi _ _ _ (Nat.le_of_lt g) h,step b.length v m H _ (by rw[<-e];simp) h (λm' H' i=>?_) (λa m' H' q=>q)⟩;exact f (b++[v]) (by rw[<-e];simp) m' H' (by simpa using i)
 exact c vs [] rfl m H d
theorem lM{β:Type}{inv:St->Prop}{step:AV->(Option β->St->Prop)->St->Prop}{Q:List β->St->Prop}{vs:List AV}(I:Nat->List β->St->Prop)
  (hi:∀k acc H,k≤vs.length->I k acc H->inv H)
  (g:∀k v acc H K,vs[k]?=some v->I k acc H->(∀o H',I (k+1) (acc++o.toList) H'->K o H')->step v K H)
  (fin:∀acc H,I vs.length acc H->Q acc H) {H:St} (f:I 0 [] H):xB inv step vs [] Q H:=by
 have b:∀(r a:List AV),a++r=vs->∀acc H,I a.length acc H->xB inv step r acc Q H:=by
  intro r;induction r with
  |nil=>
   intro a e m H h;rw[E7] at e;subst e;exact⟨hi _ _ _ (Nat.le_refl _) h,fin _ _ h⟩
  |cons v r c=>
   intro a e m H h;have i:a.length<vs.length:=by rw[<-e];simp
   refine⟨hi _ _ _ (Nat.le_of_lt i) h,g a.length v m H _ (by rw[<-e];simp) h (λo H' j=>?_)⟩;have d:I (a++[v]).length (m++o.toList) H':=by simpa using j
   cases o with
   |none=>exact c (a++[v]) (by rw[<-e];simp) m H' (by simpa using d)
   |some x=>exact c (a++[v]) (by rw[<-e];simp) _ H' d
 exact b vs [] rfl [] H f
theorem Mt{β:Type}{inv:St->Prop}{step:AV->(Option β->St->Prop)->St->Prop}{Q:List β->St->Prop}(f:AV->Option β){H:St}(hi:inv H):
  ∀{vs:List AV}{acc:List β},(∀v∈vs,∀K:Option β->St->Prop,K (f v) H->step v K H)->Q (acc++vs.filterMap f) H->xB inv step vs acc Q H:=by
 intro vs;induction vs with
 |nil=>
  intro acc _ q;exact⟨hi,by simpa using q⟩
 |cons v r c=>
  intro acc a q;refine⟨hi,a v (by simp) _ ?_⟩;cases e:f v with
  |none=>exact c (λv b=>a v (by simp[b])) (by simpa[e] using q)
  |some x=>exact c (λv b=>a v (by simp[b])) (by simpa[e] using q)
theorem p8{b:M->(Bool->St->Prop)->St->Prop}{body:M->(Fl->M->St->Prop)->St->Prop}{Q:Fl->M->St->Prop}(I:Nat->M->St->Prop)(J:Nat->M->St->Prop)
  (l:∀k m H(K:Bool->St->Prop),I k m H->(∀c,J k m c->K true c)->(∀c,Q .next m c->K false c)->b m K H)
  (e:∀k m H K,J k m H->(∀j m' H',j<k->I j m' H'->K .next m' H')->(∀a m' H',Q (.ret a) m' H'->K (.ret a) m' H')->body m K H)
  {k:Nat} {m:M} {H:St} (g:I k m H):∃f,Bg b body f m Q H:=by
 have d:∀f k,k<f->∀m H,I k m H->Bg b body f m Q H:=by
  intro f;induction f with
  |zero=>intro k h;exact False.elim (Nat.not_lt_zero k h)
  |succ f n=>
   intro k p m H h;refine l k m H _ h (λc j=>?_) (λc q=>?_)
   ·simp only[if_true];exact e k m c _ j (λo m' H' r i=>n o (by lia) m' H' i) (λa m' H' q=>q)
   ·simpa using q
 exact⟨k+1,d _ k (Nat.lt_succ_self _) m H g⟩
structure mM where
 mo:List Nat:=[]
 ml:List Nat:=[]
 ms:List Nat:=[]
 mt:List Nat:=[]
structure qV(M:mM)(H H':St):Prop where
 obj:∀C,C∉M.mo->∀a f,H.obj C a=some f->H'.obj C a=some f
 lst:∀t,t∉M.ml->∀a f,H.lst t a=some f->H'.lst t a=some f
 sd:∀t,t∉M.ms->∀a f,H.sd t a=some f->H'.sd t a=some f
 td:∀t,t∉M.mt->∀a f,H.td t a=some f->H'.td t a=some f
 tup:∀a f,H.tup a=some f->H'.tup a=some f
 qG:∀t a f,H.qG t a=some f->H'.qG t a=some f
 fn:∀t a f,H.fn t a=some f->H'.fn t a=some f
 tab:∀a f,H.tab a=some f->∃f',H'.tab a=some f'
 fr:∀a,qD H' a->qD H a
noncomputable def mM.le(M N:mM):Bool:=M.mo.all (N.mo.contains ·)&&M.ml.all (N.ml.contains ·)&&M.ms.all (N.ms.contains ·)&&M.mt.all (N.mt.contains ·)
section
variable{M N:mM}{H H1 H2:St}
theorem qV.refl:qV M H H:=⟨λ_ _ _ _ e=>e,λ_ _ _ _ e=>e,λ_ _ _ _ e=>e,λ_ _ _ _ e=>e,λ_ _ e=>e,λ_ _ _ e=>e,λ_ _ _ e=>e,λ_ f e=>⟨f,e⟩,λ_ h=>h⟩
theorem qV.trans(x:qV M H H1)(y:qV M H1 H2):qV M H H2:=
 ⟨λC h a f e=>y.obj C h a f (x.obj C h a f e),λC h a f e=>y.lst C h a f (x.lst C h a f e),λC h a f e=>y.sd C h a f (x.sd C h a f e),λC h a f e=>y.td C h a f (x.td C h a f e),λa f e=>y.tup a f (x.tup a f e),λt a f e=>y.qG t a f (x.qG t a f e),λt a f e=>y.fn t a f (x.fn t a f e),λa f e=>zH (x.tab a f e) λb c=>y.tab a b c,λa h=>x.fr a (y.fr a h)⟩
theorem Ug{l m:List Nat}{C:Nat}(h:l.all (m.contains ·)=true)(q:C∈l):C∈m:=qF0.mp (D5.mp h C q)
theorem qV.le(x:qV M H H1)(h:M.le N=true):qV N H H1:=by
 refine tM h λa b c d=>?_;exact⟨λC h=>x.obj C λq=>h (Ug a q),λC h=>x.lst C λq=>h (Ug b q),λC h=>x.sd C λq=>h (Ug c q),λC h=>x.td C λq=>h (Ug d q),x.tup,x.qG,x.fn,x.tab,x.fr⟩
theorem F6{β:Type}{o:Option β}{a:Addr}(h:o.isSome=true->(a=a)=False):o=none:=Option.not_isSome_iff_eq_none.mp λq=>(h q)▸rfl
theorem kp0{β:Type}{F G:Nat->Addr->Option β}{C:Nat}{a:Addr}{f:β}(x:∀t b g,F t b=some g->G t b=some g)(h:F C a=none):∀t b g,F t b=some g->(if t=C∧b=a then some f else G t b)=some g:=λt b g e=>
 (D9 λq:t=C∧b=a=>uZ (h.symm.trans (q.1▸q.2▸e))).trans (x t b g e)
theorem kp2{β:Type}{F G:Nat->Addr->Option β}{l:List Nat}{C:Nat}{a:Addr}{f:β}(x:∀t,t∉l->∀b g,F t b=some g->G t b=some g)(h:C∈l∨F C a=none):∀t,t∉l->∀b g,F t b=some g->(if t=C∧b=a then some f else G t b)=some g:=λt c b g e=>
 (D9 λq:t=C∧b=a=>h.elim (λh=>c (q.1▸h)) λh=>uZ (h.symm.trans (q.1▸q.2▸e))).trans (x t c b g e)
theorem kp1{β:Type}{F G:Addr->Option β}{a:Addr}{f:β}(x:∀b g,F b=some g->G b=some g)(h:F a=none):∀b g,F b=some g->(if b=a then some f else G b)=some g:=λb g e=>
 (D9 λq:b=a=>uZ (h.symm.trans (q▸e))).trans (x b g e)
theorem qV.qL(x:qV M H H1)(h:C∈M.mo∨qD H a):qV M H (H1.qL C a f):=⟨kp2 x.obj (h.imp id λh=>F6 (h.obj C a)),x.lst,x.sd,x.td,x.tup,x.qG,x.fn,x.tab,λ_ h=>x.fr _ ((kN ..).mp h).1⟩
theorem qV.qQ(x:qV M H H1)(h:C∈M.ml∨qD H a):qV M H (H1.qQ C a f):=⟨x.obj,kp2 x.lst (h.imp id λh=>F6 (h.lst C a)),x.sd,x.td,x.tup,x.qG,x.fn,x.tab,λ_ h=>x.fr _ ((bS ..).mp h).1⟩
theorem qV.xV(x:qV M H H1)(h:C∈M.ms∨qD H a):qV M H (H1.xV C a f):=⟨x.obj,x.lst,kp2 x.sd (h.imp id λh=>F6 (h.sd C a)),x.td,x.tup,x.qG,x.fn,x.tab,λ_ h=>x.fr _ ((Pm ..).mp h).1⟩
theorem qV.xD(x:qV M H H1)(h:C∈M.mt∨qD H a):qV M H (H1.xD C a f):=⟨x.obj,x.lst,x.sd,kp2 x.td (h.imp id λh=>F6 (h.td C a)),x.tup,x.qG,x.fn,x.tab,λ_ h=>x.fr _ ((Pn ..).mp h).1⟩
theorem qV.zQ(x:qV M H H1)(h:qD H a):qV M H (H1.zQ a f):=⟨x.obj,x.lst,x.sd,x.td,kp1 x.tup (F6 (h.tup a)),x.qG,x.fn,x.tab,λ_ h=>x.fr _ ((Uk ..).mp h).1⟩
theorem qV.qU(x:qV M H H1)(h:qD H a):qV M H (H1.qU k a f):=⟨x.obj,x.lst,x.sd,x.td,x.tup,kp0 x.qG (F6 (h.qG k a)),x.fn,x.tab,λ_ h=>x.fr _ ((Up ..).mp h).1⟩
theorem qV.lC(x:qV M H H1)(h:qD H a):qV M H (H1.lC k a f):=⟨x.obj,x.lst,x.sd,x.td,x.tup,x.qG,kp0 x.fn (F6 (h.fn k a)),x.tab,λ_ h=>x.fr _ ((Pr ..).mp h).1⟩
theorem p9{l:List Nat}{C:Nat}(h:l.contains C=true):C∈l:=qF0.mp h
theorem iT{l:List Nat}{C:Nat}(h:l.contains C=false):C∉l:=λq=>Bool.noConfusion (h.symm.trans (qF0.mpr q))
theorem qV.zY{C:Nat}{a:Addr}{f:List AV}(x:qV M H H1)(h:M.ml.contains C=true:=by rfl):qV M H (H1.qQ C a f):=x.qQ (.inl (p9 h))
theorem qV.zR{C:Nat}{a:Addr}{f:Nat->Option AV}(x:qV M H H1)(h:M.mo.contains C=true:=by rfl):qV M H (H1.qL C a f):=x.qL (.inl (p9 h))
theorem qV.lE(x:qV M H H1)(h:M.le N=true:=by rfl):qV N H H1:=x.le h
theorem qV.zS(x:qV M H H1){C:Nat}{a:Addr}{f:List AV}(e:H.lst C a=some f)(h:M.ml.contains C=false:=by rfl):H1.lst C a=some f:=x.lst C (iT h) a f e
theorem qV.yB(x:qV M H H1){C:Nat}{a:Addr}{f:Nat->Option AV}(e:H.obj C a=some f)(h:M.mo.contains C=false:=by rfl):H1.obj C a=some f:=x.obj C (iT h) a f e
theorem qV.Ps(x:qV M H H1){C:Nat}{a:Addr}{f:List (Nat×AV)}(e:H.sd C a=some f)(h:M.ms.contains C=false:=by rfl):H1.sd C a=some f:=x.sd C (iT h) a f e
theorem qV.P8(x:qV M H H1){C:Nat}{a:Addr}{f:List (Nat×Addr×AV)}(e:H.td C a=some f)(h:M.mt.contains C=false:=by rfl):H1.td C a=some f:=x.td C (iT h) a f e
theorem qV.vQ(x:qV M H H1):qV M H (H1.vQ a f):=⟨x.obj,x.lst,x.sd,x.td,x.tup,x.qG,x.fn,λb g e=>(Decidable.em (b=a)).elim (λq=>⟨_,A3 q⟩) λq=>zH (x.tab b g e) λv r=>⟨v,(D9 q).trans r⟩,λ_ h=>x.fr _ ⟨h.obj,h.lst,h.tup,h.sd,h.td,h.yT,h.qG,h.fn⟩⟩
theorem qV.wR(x:qV M H H1):qV M H (H1.wR a f):=⟨x.obj,x.lst,x.sd,x.td,x.tup,x.qG,x.fn,x.tab,λ_ h=>x.fr _ ((Ul ..).mp h).1⟩
end
section
variable{Z:Ctx}{n:Nat}{F:Fm}{R:Value->St->Prop}{m:M}{H:St}
def Rd(Z:Ctx)(n:Nat)(F:Fm)(R:Value->St->Prop)(m:M)(H:St)(x:X)(a:AV):Prop:=∀Q:AV->St->Prop,Q a H->wE Z n F R x m Q H
def Wn(Z:Ctx)(n:Nat)(F:Fm)(R:Value->St->Prop)(m:M)(H:St)(a:Xs)(as:List AV):Prop:=∀Q:List AV->St->Prop,Q as H->wEs Z n F R a m Q H
def jR(Z:Ctx)(n:Nat)(F:Fm)(R:Value->St->Prop)(m:M)(H:St)(t:Tt)(b:Bool):Prop:=∀Q:Bool->St->Prop,Q b H->wT Z n F R t m Q H
theorem Rd.R3:Rd Z n F R m H (.R3 a) a:=λQ q=>q
theorem Rd.R5:Rd Z n F R m H (.R5 k a) a:=λQ q=>q
theorem Rd.neg:Rd Z n F R m H (.neg i) (.int (-i)):=λQ q=>q
theorem Rd.N9(h:m k=some a):Rd Z n F R m H (.N9 k) a:=λQ q=>⟨a,h,q⟩
theorem Rd.qG(h:F k=some c)(b:H.qG k c=some (some a)):Rd Z n F R m H (.qG k) a:=λQ q=>⟨c,h,_,b,a,rfl,q⟩
theorem Rd.R4(h:Rd Z n F R m H e (.ref t))(b:H.obj C t=some f)(c:f k=some a):Rd Z n F R m H (.R4 C e k) a:=λQ q=>h _ (qZ t rfl (qZ f b (qZ a c q)))
theorem Rd.wZ(h:Rd Z n F R m H e (.ref t))(hi:Rd Z n F R m H i (.int j))(b:H.lst tg t=some vs)(c:uC vs j=some a):Rd Z n F R m H (.wZ tg e i) a:=λQ q=>h _ (hi _ (qZ t rfl (qZ vs b (qZ j rfl (qZ a c q)))))
theorem Rd.xS(h:Rd Z n F R m H e (.ref t))(hi:Rd Z n F R m H i (.int j))(b:H.tup t=some vs)(c:uC vs j=some a):Rd Z n F R m H (.xS e i) a:=λQ q=>h _ (hi _ (qZ t rfl (qZ vs b (qZ j rfl (qZ a c q)))))
theorem Rd.qA(h:Rd Z n F R m H e (.ref t))(hi:Rd Z n F R m H i (.str j))(b:H.sd tg t=some l)(c:zE l j=some a):Rd Z n F R m H (.qA tg e i) a:=λQ q=>h _ (hi _ (qZ t rfl (qZ l b (qZ j rfl (qZ a c q)))))
theorem Rd.subQ(h:Rd Z n F R m H e (.ref t))(hi:Rd Z n F R m H i (.ref u))(b:H.td tg t=some l)(c:sJ H u=some j)(d:pP l j=some a):Rd Z n F R m H (.subQ tg e i) a:=λQ q=>h _ (hi _ (qZ t rfl (qZ l b (qZ u rfl (qZ j c (qZ a d q))))))
theorem Rd.nE(h:Rd Z n F R m H e (.ref t))(hi:Rd Z n F R m H i (.int j))(b:H.yT t=some l)(c:Bl l j=some a):Rd Z n F R m H (.nE e i) a:=λQ q=>h _ (hi _ (qZ t rfl (qZ l b (qZ j rfl (qZ a c q)))))
theorem Rd.bin(d:Rd Z n F R m H a (.int x))(c:Rd Z n F R m H b (.int y))(h:sV op x y=some z):Rd Z n F R m H (.bin op a b) (.int z):=λQ q=>d _ (c _ (qZ x rfl (qZ y rfl (qZ z h q))))
theorem Rd.R6(d:Rd Z n F R m H a x)(c:Rd Z n F R m H b y)(h:lB op x y H=some r):Rd Z n F R m H (.R6 op a b) (.bool r):=λQ q=>d _ (c _ (qZ r h q))
theorem Rd.not(h:Rd Z n F R m H e v)(a:qL1 H v=some b):Rd Z n F R m H (.not e) (.bool (!b)):=λQ q=>h _ (qZ b a q)
theorem Rd.vY(h:Rd Z n F R m H x v)(a:qL1 H v=some false):Rd Z n F R m H (.and (.cons x (.cons y r))) v:=λQ q=>h _ (qZ false a q)
theorem Rd.yC(h:Rd Z n F R m H x v)(b:qL1 H v=some true)(k:Rd Z n F R m H (.and (.cons y r)) a):Rd Z n F R m H (.and (.cons x (.cons y r))) a:=λQ q=>h _ (qZ true b (k Q q))
theorem Rd.uK(h:Rd Z n F R m H x a):Rd Z n F R m H (.and (.cons x .nil)) a:=λQ q=>h _ q
theorem Rd.P4(b:jR Z n F R m H t true)(h:Rd Z n F R m H x a):Rd Z n F R m H (.ite t x y) a:=λQ q=>b _ (show(if true=true then _ else _) from qX (A3 rfl) (h Q q))
theorem Rd.iteF(b:jR Z n F R m H t false)(h:Rd Z n F R m H y a):Rd Z n F R m H (.ite t x y) a:=λQ q=>b _ (show(if false=true then _ else _) from qX (D9 Bool.false_ne_true) (h Q q))
theorem Rd.uX(h:Rd Z n F R m H e (.ref t))(a:H.lst tg t=some vs):Rd Z n F R m H (.uX tg e) (.int vs.length):=λQ q=>h _ (qZ t rfl (qZ vs a q))
theorem Rd.max2(d:Rd Z n F R m H a (.int x))(c:Rd Z n F R m H b (.int y)):Rd Z n F R m H (.max2 a b) (.int (max x y)):=λQ q=>d _ (c _ (qZ x rfl (qZ y rfl q)))
theorem Rd.Jn(h:Rd Z n F R m H e (.ref t))(a:H.lst tg t=some vs)(b:vs.mapM it=some is)(c:is.min?=some x):Rd Z n F R m H (.Jn tg e) (.int x):=λQ q=>h _ (qZ t rfl (qZ vs a (qZ is b (qZ x c q))))
theorem Rd.rQ(hi:Rd Z n F R m H i (.str j))(h:zE Ka j=some a):Rd Z n F R m H (.rQ i) a:=λQ q=>hi _ (qZ j rfl (qZ a h q))
theorem Rd.eR(hi:Rd Z n F R m H i (.int j))(h:uC Ki j=some a):Rd Z n F R m H (.eR i) a:=λQ q=>hi _ (qZ j rfl (qZ a h q))
theorem Rd.gG:Rd Z n F R m H .gG (.int 21):=λQ q=>q
theorem Wn.nil:Wn Z n F R m H .nil []:=λQ q=>q
theorem Wn.cons(h:Rd Z n F R m H x a)(k:Wn Z n F R m H r as):Wn Z n F R m H (.cons x r) (a::as):=λQ q=>h _ (k _ q)
theorem jR.val(h:Rd Z n F R m H e v)(a:qL1 H v=some b):jR Z n F R m H (.val e) b:=λQ q=>h _ (qZ b a q)
theorem jR.lst(h:Rd Z n F R m H e (.ref t))(a:H.lst tg t=some vs):jR Z n F R m H (.lst tg e) (decide (vs≠[])):=λQ q=>h _ (qZ t rfl (qZ vs a q))
theorem jR.not(h:jR Z n F R m H t b):jR Z n F R m H (.not t) (!b):=λQ q=>h _ q
theorem jR.uK:jR Z n F R m H (.and .nil) true:=λQ q=>q
theorem jR.vY(h:jR Z n F R m H t false):jR Z n F R m H (.and (.cons t r)) false:=λQ q=>h _ (show(if false=true then _ else _) from qX (D9 Bool.false_ne_true) q)
theorem jR.yC(h:jR Z n F R m H t true)(k:jR Z n F R m H (.and r) b):jR Z n F R m H (.and (.cons t r)) b:=λQ q=>h _ (show(if true=true then _ else _) from qX (A3 rfl) (k Q q))
theorem jR.F7:jR Z n F R m H (.or .nil) false:=λQ q=>q
theorem jR.F8(h:jR Z n F R m H t true):jR Z n F R m H (.or (.cons t r)) true:=λQ q=>h _ (show(if true=true then _ else _) from qX (A3 rfl) q)
theorem jR.Pt(h:jR Z n F R m H t false)(k:jR Z n F R m H (.or r) b):jR Z n F R m H (.or (.cons t r)) b:=λQ q=>h _ (show(if false=true then _ else _) from qX (D9 Bool.false_ne_true) (k Q q))
variable{Q:Fl->M->St->Prop}{r:Ss}{x:X}{a:AV}
theorem qP(q:Q .next m H):O6 Z n F R .nil m Q H:=q
theorem jW(h:Rd Z n F R m H x a)(q:O6 Z n F R r (up m k a) Q H):O6 Z n F R (.cons (.R7 (.N9 k) x) r) m Q H:=h _ q
theorem xF(h:wE Z n F R x m (λv a=>O6 Z n F R r (up m k v) Q a) H):O6 Z n F R (.cons (.R7 (.N9 k) x) r) m Q H:=h
theorem wY(h:Rd Z n F R m H x a)(c:Rd Z n F R m H e (.ref t))(b:H.obj C t=some f)(q:O6 Z n F R r m Q (H.qL C t (up f k a))):O6 Z n F R (.cons (.R7 (.R4 C e k) x) r) m Q H:=h _ (c _ (qZ t rfl (qZ f b q)))
theorem gI(a:∀l vs,Rd Z n F R m (H.qQ tg l vs) e (.ref t))(b:H.obj C t=some f)(q:∀l,qD H l->O6 Z n F R r m Q ((H.qQ tg l []).qL C t (up f k (.ref l)))):O6 Z n F R (.cons (.R7 (.R4 C e k) (.list tg .nil)) r) m Q H:=⟨by decide,λl c=>a l [] _ (qZ t rfl (qZ f b (q l c)))⟩
theorem zA(h:Wn Z n F R m H es as)(q:qB Z n f as H (λ_ a=>O6 Z n F R r m Q a) R):O6 Z n F R (.cons (.expr (.call (.R5 k (.ref f)) es)) r) m Q H:=h _ (qZ f rfl q)
theorem gX(h:Wn Z n F R m H es as)(q:qB Z n f as H (λa b=>O6 Z n F R r (up m j a) Q b) R):O6 Z n F R (.cons (.R7 (.N9 j) (.call (.R5 k (.ref f)) es)) r) m Q H:=h _ (qZ f rfl q)
theorem wB(h:Rd Z n F R m H x a)(q:Q (.ret a) m H):O6 Z n F R (.cons (.ret x) r) m Q H:=h _ q
theorem Uf(q:Q (.ret .none) m H):O6 Z n F R (.cons .Ke r) m Q H:=q
theorem wI(h:jR Z n F R m H t true)(w:O6 Z n F R p m (λa m' H'=>match a with|.next=>O6 Z n F R r m' Q H'|a=>Q a m' H') H):O6 Z n F R (.cons (.ite t p q) r) m Q H:=h _ (show(if true=true then _ else _) from qX (A3 rfl) w)
theorem vA(h:jR Z n F R m H t false)(w:O6 Z n F R q m (λa m' H'=>match a with|.next=>O6 Z n F R r m' Q H'|a=>Q a m' H') H):O6 Z n F R (.cons (.ite t p q) r) m Q H:=h _ (show(if false=true then _ else _) from qX (D9 Bool.false_ne_true) w)
theorem wW(h:jR Z n F R m H t false)(w:O6 Z n F R r m Q H):O6 Z n F R (.cons (.ite t p .nil) r) m Q H:=vA h w
theorem mN(c:Rd Z n F R m H e (.ref t))(b:H.lst tg t=some vs)(h:Rd Z n F R m H y a)(d:vs.length<1000000)(q:O6 Z n F R r m Q (H.qQ tg t (vs++[a]))):O6 Z n F R (.cons (.expr (.append tg e y)) r) m Q H:=c _ (qZ t rfl (qZ vs b (h _ (zU vs b d q))))
theorem bT(b:Rd Z n F R m H e (.ref t))(a:H.obj C t=some f)(c:f k=some (.int i))(h:Rd Z n F R m H y (.int j))(hz:sV op i j=some z)(q:O6 Z n F R r m Q (H.qL C t (up f k (.int z)))):O6 Z n F R (.cons (.aM C e k op y) r) m Q H:=b _ (qZ t rfl (qZ f a (qZ _ c (h _ (qZ f a (qZ i rfl (qZ j rfl (qZ z hz q))))))))
theorem Mb{c:Bool}{k:Nat}{tg:Nat}{e:X}{b:Ss}{t:Addr}{vs:List AV}(g:Rd Z n F R m H e (.ref t))(h:H.lst tg t=some vs)(w:fU (λH'=>H'.lst tg t=some vs) (λx m' f H'=>if c=true then T9 (F k) λa=>T9 (H'.qG k a) λ_=>O6 Z n F R b m' f (H'.qU k a (some x)) else O6 Z n F R b (up m' k x) f H') vs m (λd m' H'=>match d with|.next=>O6 Z n F R r m' Q H'|d=>Q d m' H') H):
  O6 Z n F R (.cons (.yM c k (.lst tg) e b) r) m Q H:=g _ ⟨t,rfl,vs,h,w⟩
theorem kR{k:Nat}{tg:Nat}{e:X}{b:Ss}{t:Addr}{vs:List AV}(I:Nat->M->St->Prop)(g:Rd Z n F R m H e (.ref t))(h:H.lst tg t=some vs)(hi:∀j m' H',j≤vs.length->I j m' H'->H'.lst tg t=some vs)
  (step:∀j v m' H' K,vs[j]?=some v->I j m' H'->(∀c d,I (j+1) c d->K .next c d)->(∀a c d,Q (.ret a) c d->K (.ret a) c d)->O6 Z n F R b (up m' k v) K H') (f:I 0 m H) (fin:∀m' H',I vs.length m' H'->O6 Z n F R r m' Q H'):
  O6 Z n F R (.cons (.yM false k (.lst tg) e b) r) m Q H:=by
 refine Mb g h (nG I hi (λj v m' H' K l i o p=>?_) fin f);refine qX (D9 Bool.false_ne_true) ?_;exact step j v m' H' K l i o λa c d q=>p a c d q
theorem Zn{t:Tt}{b:Ss}(I J:Nat->M->St->Prop)
  (o:∀k m' H'(K:Bool->St->Prop),I k m' H'->(∀f,J k m' f->K true f)->(∀f,O6 Z n F R r m' Q f->K false f)->wT Z n F R t m' K H')
  (h:∀k m' H' K,J k m' H'->(∀j d e,j<k->I j d e->K .next d e)->(∀a d e,Q (.ret a) d e->K (.ret a) d e)->O6 Z n F R b m' K H') {k:Nat} (l:I k m H):O6 Z n F R (.cons (.Jr t b) r) m Q H:=
 p8 (Q:=λg m' H'=>match g with|.next=>O6 Z n F R r m' Q H'|g=>Q g m' H') I J (λk m' H' K i a c=>o k m' H' K i a c) (λk m' H' K j a c=>h k m' H' K j a c) l
theorem qB.mono(h:qB Z n f as H P R)(b:∀a H',P a H'->P' a H'):qB Z n f as H P' R:=⟨h.1,λc i=>(h.2 c i).mono (λv H' d=>qY d λa e q=>qZ a e (b _ _ q)) λ_ _ r=>r⟩
end
theorem uI(T:Z.xR)(c:qH Z.K f ps [] b=true)(a:ps.length=as.length)(w:O6 Z n (λ_=>none) qM b (qV3 ps as λ_=>none) (lP Q) H):qB Z (n+1) f as H Q qM:=tD T.hh T.ok c a w
theorem f9(T:Z.xR)(e:qH Z.K f ps [c] b=true)(d:ps.length=as.length)(w:∀a,qD H a->O6 Z n (λx=>if x=c then some a else none) qM b (qV3 ps as λ_=>none) (lP Q) (H.qU c a (fK ps as (λ_=>none) c))):qB Z (n+1) f as H Q qM:=tD T.hh T.ok e d w
section
set_option genSizeOf false
set_option genInjectivity false
inductive Pb where
 |ready|zL|delayed|kS|qC|done
 deriving DecidableEq
noncomputable def Pb.code:Pb->Nat
 |.ready=>81|.zL=>133|.delayed=>135|.kS=>143|.qC=>182|.done=>29
noncomputable def Pb.bcode:Pb->Nat
 |.ready=>81|.zL=>23|.delayed=>122|.kS=>143|.qC=>32|.done=>32
inductive Ev where
 |none|called|yZ|refused
 deriving DecidableEq
noncomputable def Ev.code:Ev->Nat
 |.none=>0|.called=>101|.yZ=>35|.refused=>148
structure lQ where
 st:Pb
 wake:Option Int
 fS:Ev
 ab:Bool
structure Ask where
 zZ:Nat
 name:Nat
 c:Addr
 num:Int
structure TT where
 t:Nat->lQ
 asks:List Ask
 told:List Nat
 time:Int
noncomputable def TT.xH(τ:TT)(i:Nat)(x:lQ):TT:={τ with t:=λj=>if j=i then x else τ.t j}
noncomputable def TT.drop(τ:TT)(i:Nat):TT:={τ with asks:=τ.asks.filter λa=>a.zZ≠i}
theorem yG(τ:TT)(i:Nat)(x:lQ)(j:Nat):(τ.xH i x).t j=if j=i then x else τ.t j:=rfl
structure xZ where
 n:Nat
 ts:Nat->Addr
 qd:Nat->Addr
 sv:Nat->Addr
 ms:Nat->Addr
 rl:Nat->Int
 ad:Nat->Addr
 ins:Nat->Int
 wr:AV
noncomputable def xZ.tk(P:xZ):Addr:=P.ad 0
noncomputable def xZ.ck(P:xZ):Addr:=P.ad 1
noncomputable def xZ.lm(P:xZ):Addr:=P.ad 2
noncomputable def xZ.tl(P:xZ):Addr:=P.ad 3
noncomputable def xZ.th(P:xZ):Addr:=P.ad 4
noncomputable def xZ.q(P:xZ):Addr:=P.ad 5
noncomputable def xZ.rd(P:xZ):Addr:=P.ad 6
noncomputable def xZ.en(P:xZ):Addr:=P.ad 7
noncomputable def xZ.told(P:xZ):Addr:=P.ad 8
noncomputable def xZ.rules(P:xZ):Addr:=P.ad 9
noncomputable def xZ.again(P:xZ):Addr:=P.ad 10
noncomputable def xZ.cR(P:xZ):Addr:=P.ad 11
noncomputable def xZ.cT(P:xZ):Addr:=P.ad 12
noncomputable def xZ.choose(P:xZ):Addr:=P.ad 13
noncomputable def xZ.bk(P:xZ):Addr:=P.ad 15
noncomputable def xZ.bs(P:xZ):Addr:=P.ad 16
noncomputable def xZ.bu(P:xZ):Addr:=P.ad 17
noncomputable def xZ.ba(P:xZ):Addr:=P.ad 18
noncomputable def xZ.bi(P:xZ):Addr:=P.ad 19
noncomputable def xZ.bt(P:xZ):Addr:=P.ad 20
noncomputable def xZ.well(P:xZ):Addr:=P.ad 21
noncomputable def xZ.cells(P:xZ):Addr:=P.ad 22
noncomputable def xZ.seen(P:xZ):Addr:=P.ad 23
noncomputable def xZ.cW(P:xZ):Addr:=P.ad 24
noncomputable def xZ.cS(P:xZ):Addr:=P.ad 25
noncomputable def dS:Option Int->AV
 |none=>.none
 |some i=>.int i
def gY(b:Addr->Option (List AV))(x:Ev)(a:AV):Prop:=match x with
 |.none=>a=.none
 |x=>∃t,a=.ref t∧b t=some [.str x.code]
structure kJ(P:xZ)(i:Nat)(x:lQ)(tup:Addr->Option (List AV))(f:M):Prop where
 number:f 113=some (.int (i+1))
 state:f 86=some (.str x.st.code)
 wake:f 57=some (dS x.wake)
 answer:∃a,f 99=some a∧gY tup x.fS a
 raised:f 116=some .none
 Uh:∃b,f 216=some (.bool b)∧(x.st≠.done->b=x.ab)
 inside:f 107=some (.int (P.ins i))
 wL:f 181=some .none
 wD:f 115=some (.ref (P.qd i))
 xK:f 149=some (.ref (P.sv i))
 wA:f 142=some (.ref (P.ms i))
structure sS(P:xZ)(a:Ask)(tup:Addr->Option (List AV))(f:M):Prop where
 number:f 113=some (.int a.num)
 caller:f 102=some (.ref (P.ts a.zZ))
 target:f 124=some (.ref P.th)
 key:∃kt,f 9=some (.ref kt)∧tup kt=some [.str a.name,.none]
 Pc:f 137=some (.bool false)
noncomputable def jS:List Nat:=[1,2,3]
structure QIs(P:xZ)(asks:List Ask)(tup:Addr->Option (List AV))(lst:Addr->Option (List AV))(qs:List (Nat×Addr×Addr)):Prop where
 keys:(qs.map (·.1)).Nodup
 apart:(qs.map (·.2.2)).Nodup
 each:∀p∈qs,p.1∈jS∧tup p.2.1=some [.str p.1,.none]∧lst p.2.2=some ((asks.filter λa=>a.name=p.1).map λa=>.ref a.c)
 all:∀a∈asks,a.name∈qs.map (·.1)
noncomputable def iX(a:List (Nat×Addr×Addr)):List (Nat×Addr×AV):=a.map λp=>(p.1,p.2.1,.ref p.2.2)
structure TkIs(P:xZ)(eQ:Int)(lo:Addr)(f:M):Prop where
 tasks:f 89=some (.ref P.tl)
 bB:f 66=some (.ref P.ck)
 bC:f 141=some (.ref P.lm)
 serve:f 83=some (.ref P.again)
 choose:f 104=some (.ref P.choose)
 iB:f 145=some (.int eQ)
 Mc:f 37=some (.ref lo)
 settled:∃s,f 150=some (.int s)
 nn:f 218=none
structure ThIs(P:xZ)(lst:Addr->Option (List AV))(f:M):Prop where
 wD:f 115=some (.ref P.q)
 bD:f 147=some (.ref P.rd)
 entries:f 136=some (.ref P.en)
 line:∃l,f 36=some (.ref l)∧lst l=some []
structure h9(P:xZ)(H:St):Prop where
 inj:∀i j,i<P.n->j<P.n->P.ts i=P.ts j->i=j
 small:P.n≤4
 sub:∀i,i<P.n->H.td 4 (P.qd i)=some []∧H.lst 11 (P.sv i)=some []∧H.lst 12 (P.ms i)=some []
 lm:∃f,H.obj 265 P.lm=some f∧f 163=some (.bool false)
 tl:H.lst 18 P.tl=some ((B4 P.n).map λi=>.ref (P.ts i))
 rd:H.lst 36 P.rd=some []
 en:H.lst 40 P.en=some [.str 1,.str 2,.str 3]
 rules:∃l,H.sd 43 P.rules=some l∧∀k∈jS,zE l k=some (.int (P.rl k))
 rlo:∀k∈jS,0≤P.rl k∧P.rl k≤3
 again:H.fn 195 P.again=some [(54,P.cT),(82,P.cR)]
 cR:H.qG 82 P.cR=some (some (.ref P.rules))
 cT:H.qG 54 P.cT=some (some (.ref P.told))
 Pd:∃l,H.tab 595=some l
structure zW(P:xZ)(τ:TT)(eQ:Int)(nl:Nat)(H:St):Prop where
 C:h9 P H
 task:∀i,i<P.n->∃f,H.obj 195 (P.ts i)=some f∧kJ P i (τ.t i) H.tup f
 asks:∀a∈τ.asks,a.zZ<P.n∧(∃f,H.obj 195 (P.ts a.zZ)=some f∧f 26=some (.ref a.c))∧(∃f,H.obj 138 a.c=some f∧sS P a H.tup f)
 Fg:∀a∈τ.asks,a.num≤eQ
 apart:(τ.asks.map (·.num)).Nodup
 queue:∃qs,H.td 2 P.q=some (iX qs)∧QIs P τ.asks H.tup (H.lst 3) qs
 tk:∃f lo,H.obj 409 P.tk=some f∧TkIs P eQ lo f∧H.lst 16 lo=some (C9 nl (.ref P.th))
 ck:∃f,H.obj 31 P.ck=some f∧f 14=some (.int τ.time)
 th:∃f,H.obj 488 P.th=some f∧ThIs P (H.lst 37) f∧f 127=some P.wr
 told:H.lst 47 P.told=some (τ.told.map λi=>.int i)
noncomputable def MN:mM:={}
noncomputable def MT:mM:={mo:=[195,138,409,488,31],ml:=[3,16,47],mt:=[2]}
noncomputable def MS:mM:={mo:=[195,138],ml:=[3,47],mt:=[2]}
noncomputable def MW:mM:={ms:=[41]}
noncomputable def MC:mM:={ml:=[65],ms:=[41]}
noncomputable def MB:mM:={ml:=[50,52,53,54,58,59],ms:=[49]}
noncomputable def MxT:mM:={ml:=[46,65,50,52,53,54,58,59,70],ms:=[41,49]}
noncomputable def MxB:mM:={mo:=[195,138,409,488,31],ml:=[3,16,46,47,65,70],ms:=[41],mt:=[2]}
theorem gY.keep{M:mM}{H H':St}(h:gY H.tup x a)(k:qV M H H'):gY H'.tup x a:=by
 cases x with
 |none=>exact h
 |_=>obtain⟨t,e,q⟩:=h;exact qZ t e (k.tup _ _ q)
theorem kJ.keep{P:xZ}{M:mM}{H H':St}(h:kJ P i x H.tup f)(k:qV M H H'):kJ P i x H'.tup f:=
 {h with answer:=qY h.answer λa e q=>(qZ a e (q.keep k))}
theorem sS.keep{P:xZ}{M:mM}{H H':St}(h:sS P a H.tup f)(k:qV M H H'):sS P a H'.tup f:=
 {h with key:=qY h.key λt e q=>(qZ t e (k.tup _ _ q))}
theorem h9.keep(h:h9 P H)(k:qV {mo:=[195,138,409,488,31],ml:=[3,16,46,47,65,50,52,53,54,58,59,70],ms:=[41,49],mt:=[2]} H H'):h9 P H' where
 inj:=h.inj
 small:=h.small
 sub:=λi d=>wH (h.sub i d) λa b c=>⟨k.P8 a,k.zS b,k.zS c⟩
 lm:=qY h.lm λf a b=>qZ f (k.yB a) b
 tl:=k.zS h.tl
 rd:=k.zS h.rd
 en:=k.zS h.en
 rules:=qY h.rules λl a b=>qZ l (k.Ps a) b
 rlo:=h.rlo
 again:=k.fn _ _ _ h.again
 cR:=k.qG _ _ _ h.cR
 cT:=k.qG _ _ _ h.cT
 Pd:=zH h.Pd λl a=>k.tab _ _ a
theorem zW.keep(h:zW P τ eQ nl H)(k:qV MxT H H'):zW P τ eQ nl H' where
 C:=h.C.keep (k.lE)
 task:=λi d=>qY (h.task i d) λf a b=>qZ f (k.yB a) (b.keep k)
 asks:=λa e=>let ⟨x,⟨f,y,z⟩,g,u,v⟩:=h.asks a e;(oQ x (qZ f (k.yB y) z) (qZ g (k.yB u) (v.keep k)))
 Fg:=h.Fg
 apart:=h.apart
 queue:=qY h.queue λj a b=>qZ j (k.P8 a) ⟨b.keys,b.apart,λp m=>wH (b.each p m) λx y z=>⟨x,k.tup _ _ y,k.zS z⟩,b.all⟩
 tk:=wV h.tk λf lo a b c=>xO f lo (k.yB a) b (k.zS c)
 ck:=qY h.ck λf a b=>qZ f (k.yB a) b
 th:=zX h.th λf a b c=>zU f (k.yB a) ({b with line:=qY b.line λl x y=>(qZ l x (k.zS y))}) c
 told:=k.zS h.told
structure Pe(P:xZ)(time:Int)(bl:Addr)(l:List (Nat×AV)):Prop where
 st:zE l 86=some (.ref P.bs)
 un:zE l 92=some (.ref P.bu)
 an:zE l 99=some (.ref P.ba)
 si:zE l 48=some (.ref P.bi)
 to:zE l 54=some (.ref P.bt)
 ti:zE l 53=some (.int time)
 N7:zE l 23=some (.ref bl)
structure wP(P:xZ)(τ:TT)(H:St):Prop where
 bk:∃l bl,H.sd 49 P.bk=some l∧Pe P τ.time bl l∧∃ps:List (Addr×Ask),H.lst 50 bl=some (ps.map λp=>.ref p.1)∧(∀p∈ps,H.tup p.1=some [.int p.2.zZ,.str p.2.name])∧ps.map (·.2)=τ.asks
 bs:H.lst 52 P.bs=some ((B4 P.n).map λi=>.str (τ.t i).st.bcode)
 bu:H.lst 53 P.bu=some ((B4 P.n).map λi=>dS (τ.t i).wake)
 ba:∃as,H.lst 54 P.ba=some as∧as.length=P.n∧∀i,i<P.n->∃a,as[i]?=some a∧gY H.tup (τ.t i).fS a
 bi:H.lst 59 P.bi=some ((B4 P.n).map λi=>.bool (τ.t i).ab)
 bt:H.lst 58 P.bt=some (τ.told.map λi=>.int i)
theorem wP.keep(h:wP P τ H)(k:qV MxB H H'):wP P τ H' where
 bk:=by
  refine wV h.bk λl bl a b f=>zX f λg c d e=>?_;exact xO l bl (k.Ps a) b (zU g (k.zS c) (λp j=>k.tup _ _ (d p j)) e)
 bs:=k.zS h.bs
 bu:=k.zS h.bu
 ba:=zX h.ba λm a b c=>zU m (k.zS a) b (λi n=>qY (c i n) λx y z=>qZ x y (z.keep k))
 bi:=k.zS h.bi
 bt:=k.zS h.bt
end
section
variable{P:xZ}{τ:TT}{H:St}
theorem vI(h:H.obj C a=some f)(b:C≠C'∨a≠a'):(H.qL C' a' g).obj C a=some f:=by
 rw[Mn,D9]
 ·exact h
 ·rintro⟨c,d⟩;rcases b with q|q
  ·exact q c
  ·exact q d
theorem vJ(h:H.lst t a=some f)(b:t≠t'∨a≠a'):(H.qQ t' a' g).lst t a=some f:=by
 rw[Mr,D9]
 ·exact h
 ·rintro⟨c,d⟩;rcases b with q|q
  ·exact q c
  ·exact q d
theorem qT{H:St}{t t':Nat}{a a':Addr}{f g:List AV}(h:H.lst t a=some f)(e:Nat.beq t t'=false:=by rfl):(H.qQ t' a' g).lst t a=some f:=vJ h (.inl (Nat.ne_of_beq_eq_false e))
theorem zF{H:St}{C C':Nat}{a a':Addr}{f g:M}(h:H.obj C a=some f)(e:Nat.beq C C'=false:=by rfl):(H.qL C' a' g).obj C a=some f:=vI h (.inl (Nat.ne_of_beq_eq_false e))
theorem qD.m8(h:qD H l)(e:H.obj C a=some f):a≠l:=λq=>by
 have:=h.obj C a (qX e rfl);rw[q] at this;simp at this
theorem qD.sB(h:qD H l)(e:H.lst C a=some f):a≠l:=λq=>by
 have:=h.lst C a (qX e rfl);rw[q] at this;simp at this
theorem zW.jX(h:zW P τ eQ nl H)(hi:i<P.n)(l:H.obj 195 (P.ts i)=some f)(m:kJ P i x H.tup f')(c:(∀a∈τ.asks,a.zZ≠i)∨f' 26=f 26):zW P (τ.xH i x) eQ nl (H.qL 195 (P.ts i) f') where
 C:={h.C with lm:=h.C.lm.imp λg e=>⟨zF e.1,e.2⟩}
 task:=λj d=>by
  by_cases e:j=i
  ·subst e;refine qZ f' (qJ ..) ?_;rw[yG,A3 rfl];exact m
  ·refine qY (h.task j d) λg a b=>?_;refine qZ g (vI a (.inr λq=>e (h.C.inj _ _ d hi q))) ?_;rw[yG,D9 e];exact b
 asks:=λa k=>by
  refine wH (h.asks a k) λw n o=>qY n λg y z=>qY o λp u v=>?_;refine oQ w ?_ (qZ p (zF u) v);by_cases e:a.zZ=i
  ·refine qQ0 c (λc=>?_) λc=>?_
   ·exact absurd e (c a k)
   ·rw[e] at y⊢;obtain rfl:=sj l y;exact qZ f' (qJ ..) (c.trans z)
  ·exact qZ g (vI y (.inr λq=>e (h.C.inj _ _ w hi q))) z
 Fg:=h.Fg
 apart:=h.apart
 queue:=h.queue
 tk:=yX h.tk λg lo a b=>nS g lo (zF a) b
 ck:=qY h.ck λg a b=>qZ g (zF a) b
 th:=qY h.th λg a b=>qZ g (zF a) b
 told:=h.told
theorem zW.uH(h:zW P τ eQ nl H)(f:∀a∈τ.asks,a.c=c->sS P a H.tup f'):zW P τ eQ nl (H.qL 138 c f') where
 C:={h.C with lm:=h.C.lm.imp λg e=>⟨zF e.1,e.2⟩}
 task:=λj i=>qY (h.task j i) λg a b=>qZ g (zF a) b
 asks:=λa d=>by
  refine wH (h.asks a d) λw k l=>qY k λg y z=>qY l λm u v=>?_;refine⟨w,qZ g (zF y) z,?_⟩;by_cases e:a.c=c
  ·exact qX (e) ((qZ f' (qJ ..) (f a d e)))
  ·exact qZ m (vI u (.inr e)) v
 Fg:=h.Fg
 apart:=h.apart
 queue:=h.queue
 tk:=yX h.tk λg lo a b=>nS g lo (zF a) b
 ck:=qY h.ck λg a b=>qZ g (zF a) b
 th:=qY h.th λg a b=>qZ g (zF a) b
 told:=h.told
theorem zW.r9(h:zW P τ eQ nl H)(c:f' 14=some (.int t)):zW P {τ with time:=t} eQ nl (H.qL 31 P.ck f') where
 C:={h.C with lm:=h.C.lm.imp λg e=>⟨zF e.1,e.2⟩}
 task:=λj d=>let ⟨g,a,b⟩:=h.task j d;(qZ g (zF a) b)
 asks:=λa f=>let ⟨w,⟨g,y,z⟩,g2,u,v⟩:=h.asks a f;(oQ w (qZ g (zF y) z) (qZ g2 (zF u) v))
 Fg:=h.Fg
 apart:=h.apart
 queue:=h.queue
 tk:=let ⟨g,lo,a,b⟩:=h.tk;(nS g lo (zF a) b)
 ck:=qZ f' (qJ ..) c
 th:=let ⟨g,a,b⟩:=h.th;(qZ g (zF a) b)
 told:=h.told
theorem zW.s8(h:zW P τ eQ nl H){f':M}{c:Int}{nl':Nat}{lo:Addr}(k:TkIs P c lo f')(f:eQ≤c)(i:H.lst 16 lo=some (C9 nl' (.ref P.th))):zW P τ c nl' (H.qL 409 P.tk f') where
 C:={h.C with lm:=h.C.lm.imp λg e=>⟨zF e.1,e.2⟩}
 task:=λj l=>qY (h.task j l) λg a b=>qZ g (zF a) b
 asks:=λa d=>let ⟨w,⟨g,y,z⟩,g2,u,v⟩:=h.asks a d;(oQ w (qZ g (zF y) z) (qZ g2 (zF u) v))
 Fg:=λa d=>Int.le_trans (h.Fg a d) f
 apart:=h.apart
 queue:=h.queue
 tk:=xO f' lo (qJ ..) k i
 ck:=qY h.ck λg a b=>qZ g (zF a) b
 th:=qY h.th λg a b=>qZ g (zF a) b
 told:=h.told
theorem zW.setLost(h:zW P τ eQ nl H){lo:Addr}(d:H.obj 409 P.tk=some f)(e:f 37=some (.ref lo)){nl':Nat}:zW P τ eQ nl' (H.qQ 16 lo (C9 nl' (.ref P.th))):=
 {h with
  C:={h.C with sub:=λi j=>wH (h.C.sub i j) λa b c=>⟨a,qT b,qT c⟩,tl:=qT h.C.tl,rd:=qT h.C.rd,en:=qT h.C.en}
  queue:=qY h.queue λk a b=>qZ k a ⟨b.keys,b.apart,λp m=>wH (b.each p m) λx y z=>⟨x,y,qT z⟩,b.all⟩
  tk:=by
   refine wV h.tk λg n a b c=>?_;obtain rfl:=sj d a;obtain rfl:=srj e b.Mc;exact xO f lo a b (qW ..)
  th:=zX h.th λg a b c=>zU g a ({b with line:=qY b.line λl x y=>(qZ l x (qT y))}) c
  told:=qT h.told}
theorem zW.bE(h:zW P τ eQ nl H):zW P {τ with told:=l} eQ nl (H.qQ 47 P.told (l.map λ(i:Nat)=>AV.int (i:Int))):=
 {h with
  C:={h.C with sub:=λi d=>wH (h.C.sub i d) λa b c=>⟨a,qT b,qT c⟩,tl:=qT h.C.tl,rd:=qT h.C.rd,en:=qT h.C.en}
  queue:=qY h.queue λe a b=>qZ e a ⟨b.keys,b.apart,λp f=>wH (b.each p f) λx y z=>⟨x,y,qT z⟩,b.all⟩
  tk:=wV h.tk λg lo a b c=>xO g lo a b (qT c)
  th:=zX h.th λg a b c=>zU g a ({b with line:=qY b.line λl x y=>(qZ l x (qT y))}) c
  told:=qW ..}
end
section
variable{Z:Ctx}{H:St}{x:X}{a:AV}
theorem qN(h:Rd Z n F R m (H.qL C t f) x a)(b:Rd Z n F R m (H.qL C t f) e (.ref t))(q:O6 Z n F R r m Q (H.qL C t (up f k a))):O6 Z n F R (.cons (.R7 (.R4 C e k) x) r) m Q (H.qL C t f):=
 wY h b (qJ ..) (by rw[xE];exact q)
theorem wF(b:∀l vs,Rd Z n F R m ((H.qL C t f).qQ tg l vs) e (.ref t))(q:∀l,qD H l->t≠l->O6 Z n F R r m Q ((H.qQ tg l []).qL C t (up f k (.ref l)))):O6 Z n F R (.cons (.R7 (.R4 C e k) (.list tg .nil)) r) m Q (H.qL C t f):=
 gI b (qJ ..) λl c=>by
  have a:=(kN ..).mp c;rw[Xp,xE];exact q l a.1 a.2
end
theorem Cc(T:Z.xR){t:Addr}{a r:AV}{f:M}(h:H.obj 195 t=some f)
  (q:∀l,qD H l->Q .none ((H.qQ 10 l []).qL 195 t (up (up (up (up (up (up f 86 (.str 81)) 42 (.ref l)) 57 .none) 35 .none) 99 a) 116 r))):qB Z (n+1) 206 [.ref t,a,r] H Q qM:=
 uI T (Mg T) rfl<|wY .R5 (.N9 rfl) h<|wF (λ_ _=>.N9 rfl) λl b _=>qN .R3 (.N9 rfl)<|qN .R3 (.N9 rfl)<|qN (.N9 rfl) (.N9 rfl)<|qN (.N9 rfl) (.N9 rfl)<|qP (q l b)
theorem Zr{a:Xs}{as:List AV}{K:AV->St->Prop}(h:Wn Z n F R m H a as)(b:as.length<1000)(q:∀l,qD H l->K (.ref l) (H.zQ l as)):wE Z n F R (.tup a) m K H:=h _ ⟨b,q⟩
theorem bA{a:Xs}{K:AV->St->Prop}(h:wEs Z n F R a m (λvs b=>vs.length<1000∧∀l,qD b l->K (.ref l) (b.zQ l vs)) H):wE Z n F R (.tup a) m K H:=h
theorem qR{K:List AV->St->Prop}(h:wE Z n F R x m (λv a=>wEs Z n F R r m (λvs b=>K (v::vs) b) a) H):wEs Z n F R (.cons x r) m K H:=h
theorem qE{b:Xs}{K:AV->St->Prop}(h:wEs Z n F R b m (λvs c=>qB Z n f vs c K R) H):wE Z n F R (.call (.R5 k (.ref f)) b) m K H:=by
 show wEs Z n F R b m (λvs d=>T9 (some f) λa=>qB Z n a vs d K R) H;simpa using h
theorem vV(h:wE Z n F R x m (λ_ a=>O6 Z n F R r m Q a) H):O6 Z n F R (.cons (.expr x) r) m Q H:=h
theorem uM{K:AV->St->Prop}(q:∀l,qD H l->K (.ref l) (H.zQ l [a])):wE Z n F R (.tup (.cons (.R3 a) .nil)) m K H:=⟨by simp,q⟩
theorem wO{tg:Nat}{K:AV->St->Prop}(q:∀l,qD H l->K (.ref l) (H.qQ tg l [])):wE Z n F R (.list tg .nil) m K H:=⟨by decide,q⟩
theorem vF{C k:Nat}{Q:Fl->M->St->Prop}(h:wE Z n F R x m (λv b=>wE Z n F R e m (λu a=>T9 (rf u) λt=>T9 (a.obj C t) λf=>O6 Z n F R r m Q (a.qL C t (up f k v))) b) H):O6 Z n F R (.cons (.R7 (.R4 C e k) x) r) m Q H:=h
theorem bI(T:Z.xR)(h:H.obj 31 c=some f)(a:f 14=some (.int t))(q:Q (.int (t+max w 0)) H):qB Z (n+1) 42 [.ref c,.int w] H Q qM:=
 uI T (Xq T) rfl<|wB (.bin (.R4 (.N9 rfl) h a) (.max2 (.N9 rfl) .R3) rfl) q
theorem Um(T:Z.xR)(h:H.obj 31 c=some f)(a:f 14=some (.int t))(q:Q .none (H.qL 31 c (up f 14 (.int (max t w))))):qB Z (n+1) 56 [.ref c,.int w] H Q qM:=
 uI T (Xz T) rfl<|wY (.max2 (.R4 (.N9 rfl) h a) (.N9 rfl)) (.N9 rfl) h<|qP q
noncomputable def sC(t:Int):Option Int->Bool
 |none=>false
 |some w=>decide (w≤t)
theorem s9(T:Z.xR)(h:H.obj 31 c=some f)(a:f 14=some (.int t))(q:Q (.bool (sC t w)) H):qB Z (n+1) 63 [.ref c,dS w] H Q qM:=by
 refine uI T (Ct T) rfl ?_;cases w with
 |none=>exact wB (.vY (.R6 (.N9 rfl) .R3 rfl) rfl) q
 |some w=>exact wB (.yC (.R6 (.N9 rfl) .R3 rfl) rfl (.uK (.R6 (.N9 rfl) (.R4 (.N9 rfl) h a) rfl))) q
noncomputable def dT(a:Option Int)(w:Option Int):Option Int:=match w,a with
 |none,a=>a
 |some w,none=>some w
 |some w,some a=>if w<a then some w else some a
noncomputable def qY7(ws:List (Option Int)):Option Int:=ws.foldl dT none
theorem aG(T:Z.xR)(h:H.lst 1 l=some (ws.map dS))(q:Q (dS (qY7 ws)) H):qB Z (n+1) 49 [.ref l] H Q qM:=by
 refine uI T (Vt T) rfl<|jW .R3<|kR (λk g i=>i=H∧g 75=some (dS (qY7 (ws.take k)))) (.N9 rfl) h ?_ ?_ ⟨rfl,rfl⟩ ?_
 ·intro j g i _ o;refine qK o λf _=>?_;clear o;subst f;exact h
 ·intro j v g i K e p;refine qK p λf b=>?_;clear p;subst f;intro m _;rw[D4] at e;refine qY (B8.mp e) λw t f=>?_;subst f;have d:qY7 (ws.take (j+1))=dT (qY7 (ws.take j)) w:=by
   refine qX qW9 (qX t ?_);unfold qY7;exact qX List.foldl_append rfl
  cases w with
  |none=>exact wW (.vY (.val (.R6 (.N9 rfl) .R3 rfl) rfl))<|qP (m _ _ ⟨rfl,qX d b⟩)
  |some w=>
   cases r:qY7 (ws.take j) with
   |none=>
    rw[r] at b d;exact wI (.yC (.val (.R6 (.N9 rfl) .R3 rfl) rfl) (.yC (.F8 (.val (.R6 (.N9 b) .R3 rfl) rfl)) .uK))<|jW (.N9 rfl)<|qP<|qP (m _ _ ⟨rfl,qX d rfl⟩)
   |some a=>
    rw[r] at b d;have u:dT (some a) (some w)=if w<a then some w else some a:=rfl
    rw[u] at d;by_cases c:w<a
    ·rw[A3 c] at d;exact wI (.yC (.val (.R6 (.N9 rfl) .R3 rfl) rfl) (.yC (.Pt (.val (.R6 (.N9 b) .R3 rfl) rfl) (.F8 (.val (.R6 (.N9 rfl) (.N9 b) rfl) (cgA some (dct c))))) .uK))<|jW (.N9 rfl)<|qP<|qP (m _ _ ⟨rfl,qX d rfl⟩)
    ·rw[D9 c] at d;exact wW (.yC (.val (.R6 (.N9 rfl) .R3 rfl) rfl) (.vY (.Pt (.val (.R6 (.N9 b) .R3 rfl) rfl) (.Pt (.val (.R6 (.N9 rfl) (.N9 b) rfl) (cgA some (dcf c))) .F7))))<|qP (m _ _ ⟨rfl,qX d b⟩)
 ·intro g i s;refine qK s λf b=>?_;clear s;subst f;rw[S6,qP9] at b;exact wB (.N9 b) q
theorem dC(T:Z.xR)(I:zW P τ eQ nl H){i:Nat}(hi:i<P.n)(h:(τ.t i).st≠.done){a:AV}{x:Ev}(g:gY H.tup x a)(q:∀H',zW P (τ.xH i ⟨.ready,none,x,(τ.t i).ab⟩) eQ nl H'->qV MS H H'->Q .none H'):qB Z (n+1) 206 [.ref (P.ts i),a,.none] H Q qM:=by
 refine qY (I.task i hi) λf d W=>?_;refine Cc T d λl e=>q _ ?_ ((qV.refl.qQ (.inr e)).zR);refine qY W.Uh λb j c=>?_;exact(I.keep (qV.refl.qQ (.inr e))).jX hi d ⟨W.number,rfl,rfl,qZ a rfl g,rfl,qZ b j (λ_=>c h),W.inside,W.wL,W.wD,W.xK,W.wA⟩ (.inr rfl)
theorem b9(T:Z.xR)(I:zW P τ eQ nl H){i:Nat}(hi:i<P.n)(v:(τ.t i).st≠.done){c:Addr}{f:M}(w:H.obj 138 c=some f)(h:f 102=some (.ref (P.ts i)))(d:∀a∈τ.asks,a.c≠c)(A:∀a∈τ.asks,a.zZ≠i)
  (q:∀H',zW P (τ.xH i ⟨.ready,none,.called,(τ.t i).ab⟩) eQ nl H'->qV MS H H'->Q .none H'):qB Z (n+2) 213 [.ref c,.none] H Q qM:=by
 have B:=I.uH (c:=c) (f':=up f 86 (.str 43)) λa b e=>absurd e (d a b);have k:qV MS H (H.qL 138 c (up f 86 (.str 43))):=qV.refl.zR;refine uI T (Zx T) rfl<|wY .R5 (.N9 rfl) w<|vF<|bA<|qR<|uM λy m=>(Wn.cons (Rd.N9 rfl) .nil) _ ⟨by simp,λz o=>(Rd.N9 rfl) _ (qZ c rfl (qZ _ (qJ ..) ?_))⟩;have p:=k.zQ (f:=[.str 101]) (k.fr _ m);have D:=B.keep (qV.refl.zQ (f:=[.str 101]) m);have E:=p.zQ (f:=[.ref y,.none]) (p.fr _ o);have F:=D.keep (qV.refl.zQ (f:=[.ref y,.none]) o);have r:=F.uH (c:=c) (f':=up (up f 86 (.str 43)) 71 (.ref z)) λa b e=>absurd e (d a b);have G:=E.qL (C:=138) (a:=c) (f:=up (up f 86 (.str 43)) 71 (.ref z)) (.inl (by decide));refine qY (r.task i hi) λg s W=>?_;refine wY .R3 (.R4 (.N9 rfl) (qJ ..) h) s ?_;have J:=r.jX (f':=up g 26 .none) hi s ⟨W.number,W.state,W.wake,W.answer,W.raised,W.Uh,W.inside,W.wL,W.wD,W.xK,W.wA⟩ (.inl A);have t:=G.zR (C:=195) (a:=P.ts i) (f:=up g 26 .none);refine vV<|qE<|qR<|(Rd.R4 (f:=up (up f 86 (.str 43)) 71 (.ref z)) (.N9 rfl) (vI (C:=138) (C':=195) (qJ ..) (.inl (by decide))) (by exact h)) _<|qR<|uM λl u=>(Wn.cons (Rd.N9 rfl) .nil) _ ?_;have K:=t.zQ (f:=[.str 101]) (t.fr _ u);have L:=J.keep (qV.refl.zQ (f:=[.str 101]) u);refine dC T L hi (by rw[yG,A3 rfl];exact v) (x:=.called) (qZ l rfl (zN ..)) λH' N O=>q H' ?_ (K.trans O);have e:(τ.xH i (τ.t i)).xH i ⟨.ready,none,.called,((τ.xH i (τ.t i)).t i).ab⟩=τ.xH i ⟨.ready,none,.called,(τ.t i).ab⟩:=by
  simp only[TT.xH,A3];congr 1
  funext j
  by_cases e:j=i<;>simp[e]
 rw[<-e];exact N
section
variable{Z:Ctx}{F:Fm}{R:Value->St->Prop}{H:St}{K:AV->St->Prop}
theorem bO(h:H.tup u=some [.str k,.none]):sJ H u=some k:=by unfold sJ;exact qX h (A3 rfl)
theorem Un(h:Rd Z n F R m H e (.ref t))(b:H.td tg t=some l)(d:Rd Z n F R m H k (.ref u))(c:H.tup u=some [.str j,.none])(q:∀a,qD H a->K ((pP l j).getD (.ref a)) (H.qQ t2 a [])):wE Z n F R (.Kd tg e k (.list t2 .nil)) m K H:=
 h _ (qZ t rfl (qZ l b (d _ (wO λa f=>qZ l b (qZ u rfl (qZ j (bO c) (q a f)))))))
theorem Sk(h:wE Z n F R e m (λv b=>T9 (rf v) λa=>T9 (b.lst tg a) λvs=>K (.int vs.length) b) H):wE Z n F R (.uX tg e) m K H:=h
theorem jF(h:wE Z n F R x m (λv a=>Q (.ret v) m a) H):O6 Z n F R (.cons (.ret x) r) m Q H:=h
theorem dD(h:wE Z n F R it' m (λv d=>T9 (rf v) λa=>T9 (d.lst tg2 a) λvs=>vs.length<1000000∧xB (λH'=>H'.lst tg2 a=some vs) (λx e H'=>xT Z n F R ifs (M.one k x) (λb c=>if b=true then wE Z n F R elt (M.one k x) (λy f=>e (some y) f) c else e none c) H') vs [] (λacc H'=>∀l,qD H' l->K (.ref l) (H'.qQ tg l acc)) d) H):wE Z n F R (.zO tg elt (.one k) (.lst tg2) it' ifs) m K H:=h
theorem Pa{c k:Nat}{a:X}{ifs:dW}{t:Addr}{vs:List AV}{G:List AV->St->Prop}(f:AV->Option AV)(l:H.lst c t=some vs)
  (j:∀v∈vs,(∃y,f v=some y∧jR Z n F R (M.one k v) H (.and ifs) true∧Rd Z n F R (M.one k v) H a y)∨(f v=none∧jR Z n F R (M.one k v) H (.and ifs) false))
  (q:G (vs.filterMap f) H):xB (λH'=>H'.lst c t=some vs) (λx d H'=>xT Z n F R ifs (M.one k x) (λb h=>if b=true then wE Z n F R a (M.one k x) (λy i=>d (some y) i) h else d none h) H') vs [] G H:=by
 refine Mt f l (λv m d q'=>?_) (by simpa using q);rcases j v m with o|p
 ·refine zX o λy e g r=>?_;replace q':=e▸q';exact g _ (show(if true=true then _ else _) from qX (A3 rfl) (r _ q'))
 ·refine qK p λe g=>?_;replace q':=e▸q';exact g _ (show(if false=true then _ else _) from qX (D9 Bool.false_ne_true) q')
theorem Pi{tg c k:Nat}{a:X}{ifs:dW}{t:Addr}{vs:List AV}(f:AV->Option AV)(i:H.lst c t=some vs)
  (h:∀v∈vs,(∃y,f v=some y∧jR Z n F R (M.one k v) H (.and ifs) true∧Rd Z n F R (M.one k v) H a y)∨(f v=none∧jR Z n F R (M.one k v) H (.and ifs) false))
  (q:∀l,qD H l->K (.ref l) (H.qQ tg l (vs.filterMap f))):xB (λH'=>H'.lst c t=some vs) (λx e H'=>xT Z n F R ifs (M.one k x) (λb d=>if b=true then wE Z n F R a (M.one k x) (λy g=>e (some y) g) d else e none d) H') vs [] (λacc H'=>∀l,qD H' l->K (.ref l) (H'.qQ tg l acc)) H:=Pa f i h q
theorem Zs{tg c k:Nat}{a b:X}{ifs:dW}{t:Addr}{vs:List AV}(f:AV->Option AV)(hit:Rd Z n F R m H b (.ref t))(d:H.lst c t=some vs)(e:vs.length<1000000)
  (g:∀v∈vs,(∃y,f v=some y∧jR Z n F R (M.one k v) H (.and ifs) true∧Rd Z n F R (M.one k v) H a y)∨(f v=none∧jR Z n F R (M.one k v) H (.and ifs) false))
  (q:∀l,qD H l->K (.ref l) (H.qQ tg l (vs.filterMap f))):wE Z n F R (.zO tg a (.one k) (.lst c) b ifs) m K H:=
 hit _ ⟨t,rfl,vs,d,e,Pi f d g q⟩
theorem cQ(h:wE Z n F R x m (λv a=>T9 (F k) λc=>T9 (a.qG k c) λ_=>O6 Z n F R r m Q (a.qU k c (some v))) H):O6 Z n F R (.cons (.R7 (.qG k) x) r) m Q H:=h
theorem Po(q:∀l,qD H l->K (.ref l) (H.wR l [])):wE Z n F R .oM m K H:=q
theorem Gq(h:Rd Z n F R m H e (.ref a))(c:H.yT a=some l)(d:l.length≤1)(q:∀b,qD H b->K (.ref b) (H.qQ tg b (l.map λp=>AV.int p.1))):wE Z n F R (.sortI tg e) m K H:=h _ (qZ a rfl (zU l c d q))
theorem Sl{k tg:Nat}{e:X}{b r:Ss}{t:Addr}{l:List (Nat×Addr×AV)}{Q:Fl->M->St->Prop}(I:Nat->M->St->Prop)(g:Rd Z n F R m H e (.ref t))(h:H.td tg t=some l)(hi:∀j m' H',j≤l.length->I j m' H'->H'.td tg t=some l)
  (step:∀j p m' H' K,l[j]?=some p->I j m' H'->(∀a c,I (j+1) a c->K .next a c)->O6 Z n F R b (up m' k (.ref p.2.1)) K H') (f:I 0 m H) (fin:∀m' H',I l.length m' H'->O6 Z n F R r m' Q H'):
  O6 Z n F R (.cons (.yM false k (.qk tg) e b) r) m Q H:=by
 refine g _ ⟨t,rfl,l,h,?_⟩;refine nG I (λj m' H' o i=>hi j m' H' (by simpa using o) i) (λj v m' H' K d i q w=>?_) (λm' H' i=>fin m' H' (by simpa using i)) f;rw[D4] at d;refine qY (B8.mp d) λp s u=>?_;subst u;refine qX (D9 Bool.false_ne_true) ?_;exact step j p m' H' K s i q
end
section
theorem cX(h:(qs.map (·.1)).Nodup)(a:p∈qs):pP (iX qs) p.1=some (.ref p.2.2):=by
 induction qs with
 |nil=>cases a
 |cons x qs d=>
  rw[B6,O5] at h;unfold pP iX;refine qX (B6) (qX (qW7) ?_);refine qQ0 (E3.mp a) (λb=>?_) λa=>?_
  ·subst b;simp
  ·have c:x.1≠p.1:=λe=>h.1 (e▸qZ1 a);simp only[c,decide_false];exact d h.2 a
theorem Cd(h:k∉qs.map (·.1)):pP (iX qs) k=none:=by
 unfold pP iX;rw[List.find?_map,Option.map_map,Option.map_eq_none_iff,qM0];intro p a e;exact h (T8.mpr (qZ p a (of_decide_eq_true e)))
noncomputable def TT.gJ(τ:TT)(k:Nat):List Ask:=τ.asks.filter λa=>a.name=k
variable{P:xZ}{τ:TT}{H:St}{lst:Addr->Option (List AV)}{qs:List (Nat×Addr×Addr)}
theorem QIs.look(h:QIs P τ.asks H.tup (H.lst 3) qs)(k:Nat):(∃p∈qs,p.1=k∧pP (iX qs) k=some (.ref p.2.2)∧H.lst 3 p.2.2=some ((τ.gJ k).map λa=>.ref a.c))∨(pP (iX qs) k=none∧τ.gJ k=[]∧k∉qs.map (·.1)):=by
 by_cases b:k∈qs.map (·.1)
 ·refine qY (T8.mp b) λp c d=>?_;subst d;exact .inl (rE p c rfl (cX h.keys c) ((h.each p c).2.2))
 ·refine .inr ⟨Cd b,?_,b⟩;rw[TT.gJ,qD6];intro a f e;exact b (of_decide_eq_true e▸h.all a f)
end
section
variable{Z:Ctx}{n:Nat}{H:St}{P:xZ}{τ:TT}
theorem zF2(T:Z.xR)(I:zW P τ eQ nl H)(j:H.tup u=some [.str k,.none])(q:∀H',qV MN H H'->Q (.int (τ.gJ k).length) H'):qB Z (n+1) 168 [.ref P.q,.ref u] H Q qM:=by
 refine qY I.queue λr l W=>?_;refine uI T (Zw T) rfl<|jF<|Sk<|Un (.N9 rfl) l (.N9 rfl) j λm b=>?_;have c:qV MN H (H.qQ 3 m []):=qV.refl.qQ (.inr b);rcases W.look k with d|g
 ·refine cN d λp s o e h=>?_;clear d;subst o;refine qX (e) ?_;have i:=q _ c;rw[<-S6 (f:=λa:Ask=>AV.ref a.c)] at i;exact qZ _ rfl (qZ _ (vJ h (.inr (b.sB h))) i)
 ·refine wH g λe h _=>?_;clear g;refine qX (e) ?_;have:=q _ c;replace this:=h▸this;exact qZ _ rfl (qZ _ (qW ..) this)
theorem zU2(T:Z.xR)(I:zW P τ eQ nl H)(i:H.tup u=some [.str k,.none])(b:τ.gJ k=a::as)(q:∀H',qV MN H H'->Q (.ref a.c) H'):qB Z (n+1) 161 [.ref P.q,.ref u] H Q qM:=by
 refine qY I.queue λr j W=>?_;refine uI T (Xx T) rfl<|xF<|Un (.N9 rfl) j (.N9 rfl) i λl c=>?_;have m:qV MN H (H.qQ 3 l []):=qV.refl.qQ (.inr c);rcases W.look k with d|f
 ·refine cN d λp s o e h=>?_;clear d;subst o;refine qX (e) ?_;have h2:=vJ (t':=3) (g:=[]) h (.inr (c.sB h));replace h2:=b▸h2;exact wB (.P4 (.lst (.N9 rfl) h2) (.wZ (.N9 rfl) .R3 h2 rfl)) (q _ m)
 ·refine wH f λe h _=>?_;clear f;rw[b] at h;cases h
theorem c7(T:Z.xR)(k:H.td 4 d=some [])(q:∀l H',qV MN H H'->H'.lst 7 l=some []->Q (.ref l) H'):qB Z (n+1) 173 [.ref d] H Q qM:=by
 refine f9 T (aC T) rfl λc m=>?_;have s:qV MN H (H.qU 71 c none):=qV.refl.qU m;refine cQ<|Po λy w=>qZ c rfl (qZ none (qS ..) ?_);have t:=s.wR (a:=y) (f:=[]);have o:qV MN H (((H.qU 71 c none).wR y []).qU 71 c (some (.ref y))):=t.qU m;refine Sl (λ_ i H'=>H'=((H.qU 71 c none).wR y []).qU 71 c (some (.ref y))) (.N9 rfl) k (λj i H' _ e=>qX e k) (λj p i H' K e=>by simp at e) rfl ?_
 rintro i H' rfl
 have g:(((H.qU 71 c none).wR y []).qU 71 c (some (.ref y))).qG 71 c=some (some (.ref y)):=qS ..;have h:(((H.qU 71 c none).wR y []).qU 71 c (some (.ref y))).yT y=some []:=kY ..;refine jF<|dD<|Gq (.qG rfl g) h (by decide) λb u=>qZ b rfl (zU ([]) (qW ..) (by decide) ?_);have r:=o.qQ (C:=6) (f:=[]) (.inr (o.fr _ u));exact⟨qW ..,λl v=>q l _ (r.qQ (.inr (r.fr _ v))) (qW ..)⟩
end
theorem zW8(h:Rd Z n F R m H x a)(b:Rd Z n F R m H e (.ref d))(hi:Rd Z n F R m H i (.int j))(c:H.yT d=some l)(f:l.length<1000)(q:O6 Z n F R r m Q (H.wR d (Bp l j a))):O6 Z n F R (.cons (.R7 (.nE e i) x) r) m Q H:=h _ (b _ (hi _ (qZ d rfl (qZ l c (zU j rfl f q)))))
theorem Gz(h:wE Z n F R x m (λv d=>wE Z n F R e m (λu b=>wE Z n F R i m (λw c=>T9 (rf u) λa=>T9 (c.td tg a) λl=>T9 (rf w) λt=>T9 (sJ c t) λj=>l.length<1000∧O6 Z n F R r m Q (c.xD tg a (sY l j t v))) b) d) H):O6 Z n F R (.cons (.R7 (.subQ tg e i) x) r) m Q H:=h
theorem zR8{tg:Nat}{e i:X}{d u:Addr}{j:Nat}{l:List (Nat×Addr×AV)}{v:AV}(h:Rd Z n F R m H e (.ref d))(hi:Rd Z n F R m H i (.ref u))(k:H.td tg d=some l)(g:H.tup u=some [.str j,.none])(f:l.length<1000)(q:O6 Z n F R r m Q (H.xD tg d (sY l j u v))):
  wE Z n F R e m (λu b=>wE Z n F R i m (λw c=>T9 (rf u) λa=>T9 (c.td tg a) λl=>T9 (rf w) λt=>T9 (sJ c t) λj=>l.length<1000∧O6 Z n F R r m Q (c.xD tg a (sY l j t v))) b) H:=h _ (hi _ (qZ d rfl (qZ l k (qZ u rfl (zU j (bO g) f q)))))
theorem zI9(T:Z.xR)(I:zW P τ eQ nl H)(q:∀l H',qV MN H H'->(τ.gJ k=[]->H'.lst 9 l=some [])->(τ.gJ k≠[]->∃kt,H'.lst 9 l=some [.ref kt]∧H'.tup kt=some [.str k,.none])->Q (.ref l) H'):qB Z (n+1) 178 [.ref P.q,.str k] H Q qM:=by
 refine qY I.queue λR X W=>?_;refine f9 T (Vb T) rfl λc hc=>?_;have k1:qV MN H (H.qU 71 c none):=qV.refl.qU hc;refine cQ<|Po λd S=>qZ c rfl (qZ none (qS ..) ?_);have u:qV MN H (((H.qU 71 c none).wR d []).qU 71 c (some (.ref d))):=(k1.wR).qU hc;show O6 Z n (λx=>if x=71 then some c else none) qM _ _ _ (((H.qU 71 c none).wR d []).qU 71 c (some (.ref d)));generalize hG:((H.qU 71 c none).wR d []).qU 71 c (some (.ref d))=G at u⊢;have s:G.qG 71 c=some (some (.ref d)):=qX (C6 (hG)) (qS ..);have B:G=G.wR d []:=qX (C6 (hG)) ((cgA (λx=>St.qU x 71 c (some (.ref d))) (rS ..)).symm);refine Sl (λj w H'=>∃x:List (Int×AV),H'=G.wR d x∧w 69=some (.str k)∧w 115=some (.ref P.q)∧((x=[]∧∀p∈(iX R).take j,p.1=k->τ.gJ k=[])∨(τ.gJ k≠[]∧∃p∈R,p.1=k∧x=[(-1,.ref p.2.1)]))) (.N9 rfl) (u.P8 X) ?_ ?_ (rE ([]) B rfl rfl (.inl ⟨rfl,λp hp=>by simp at hp⟩)) ?_
 ·rintro j w H' _ ⟨x,rfl,_⟩;exact u.P8 X
 ·intro j p w H' K e y1;refine cN y1 λx g m o hx=>?_;clear y1;subst g;intro Y;have hp:=qJ0 e;refine qY (T8.mp hp) λh y g=>?_;subst g;refine wH (W.each h y) λ_ e2 e3=>?_;have ht:=u.tup _ _ e2;have hl:=u.zS e3;have hq:=u.P8 X;have aa:(iX R).take (j+1)=(iX R).take j++[(h.1,h.2.1,.ref h.2.2)]:=qX qW9 (qX e rfl);have D:Rd Z n (λx=>if x=71 then some c else none) qM (up w 9 (.ref h.2.1)) (G.wR d x) (.R6 .uO (.xS (.N9 9) (.R3 (.int 0))) (.N9 69)) (.bool (decide (h.1=k))):=.R6 (.xS (.N9 rfl) .R3 ht rfl) (.N9 m) rfl;by_cases t:h.1=k
  ·have t2:jR Z n (λx=>if x=71 then some c else none) qM (up w 9 (.ref h.2.1)) (G.wR d x) (.lst 3 (.subQ 2 (.N9 115) (.N9 9))) (decide (((τ.gJ h.1).map λa=>AV.ref a.c)≠[])):=.lst (.subQ (.N9 o) (.N9 rfl) hq (bO ht) (cX W.keys y)) hl;rw[dct t] at D;by_cases E:τ.gJ k=[]
   ·have S:decide (((τ.gJ h.1).map λa=>AV.ref a.c)≠[])=false:=qX t (qX E rfl);replace t2:=S▸t2;refine wW (.yC (.val D rfl) (.vY t2))<|qP (Y _ _ (rE x rfl m o ?_));rcases hx with y3|y2
    ·refine qK y3 λg hx=>?_;clear y3;subst g;exact .inl ⟨rfl,λ_ _ _=>E⟩
    ·refine qK y2 λhx _=>?_;clear y2;exact absurd E hx
   ·have S:decide (((τ.gJ h.1).map λa=>AV.ref a.c)≠[])=true:=by rw[t];simp[E]
    replace t2:=S▸t2;refine wI (.yC (.val D rfl) (.yC t2 .uK)) ?_;have U:(G.wR d x).yT d=some x:=kY ..;refine zW8 (.N9 rfl) (.qG rfl s) (.P4 (.val (.R6 (.xS (.N9 rfl) .R3 ht rfl) .R3 rfl) rfl) .neg) U ?_ ?_
    ·rcases hx with⟨rfl,_⟩|⟨_,z,_,_,rfl⟩<;>simp
    ·rw[rS];refine qP<|qP (Y _ _ (rE _ rfl m o (.inr (pS E (zU h y t ?_)))));rcases hx with⟨rfl,_⟩|⟨_,z,_,_,rfl⟩<;>rfl
  ·rw[dcf t] at D;refine wW (.vY (.val D rfl))<|qP (Y _ _ (rE x rfl m o ?_));rcases hx with y4|hx
   ·refine qK y4 λg hx=>?_;clear y4;subst g;refine .inl ⟨rfl,λp hp r=>?_⟩;replace hp:=aa▸hp;rcases A4.mp hp with hp|hp
    ·exact hx p hp r
    ·rw[B7.mp hp] at r;exact absurd r t
   ·exact .inr hx
 ·intro w H' y5;refine cN y5 λx g m o hx=>?_;clear y5;subst g;have U:(G.wR d x).yT d=some x:=kY ..;have F:=s;have k3:=u.wR (a:=d) (f:=x);replace hx:=qP9▸hx;have J:x.length≤1:=by rcases hx with⟨rfl,_⟩|⟨_,z,_,_,rfl⟩<;>simp
  refine jF<|dD<|Gq (.qG rfl F) U J λb hb=>qZ b rfl (zU _ (qW ..) (by rw[S6];lia) ?_);have k4:=k3.qQ (C:=8) (f:=x.map λp=>AV.int p.1) (.inr (k3.fr _ hb));refine Pi (λv=>match v with|.int i=>Bl x i|_=>none) (qW ..) ?_ ?_
  ·intro v A;rcases hx with y7|y6
   ·refine qK y7 λg _=>?_;clear y7;subst g;first|exact uZ A|exact Bool.noConfusion A|exact nomatch A|(obtain rfl:=B5 A)|exact(A).elim
   ·refine qK y6 λ_ g=>?_;clear y6;refine zX g λz _ _ z2=>?_;clear g;subst z2;cases B7.mp A;exact .inl (zU _ rfl .uK (.nE (.qG rfl F) (.N9 rfl) U rfl))
  ·intro l hl;refine q l _ (k4.qQ (.inr (k4.fr _ hl))) (λV=>?_) λV=>?_
   ·rcases hx with y9|y8
    ·refine qK y9 λg _=>?_;clear y9;subst g;exact qW ..
    ·refine qK y8 λhx _=>?_;clear y8;exact absurd V hx
   ·rcases hx with L|M
    ·refine qK L λg hx=>?_;clear L;subst g;exfalso
     rcases W.look k with N|O
     ·refine cN N λp hp t _ _=>?_;clear N;exact V (hx (p.1,p.2.1,.ref p.2.2) (T8.mpr (qZ p hp rfl)) t)
     ·refine wH O λ_ e _=>?_;clear O;exact V e
    ·refine qK M λ_ g=>?_;clear M;refine zX g λz ab r z2=>?_;clear g;subst z2;refine qZ z.2.1 (qW ..) ?_;refine qX (C6 (r)) ?_;exact k4.tup _ _ (W.each z ab).2.1
theorem zZ9(h:∃p∈qs,p.1=k):sY (iX qs) k u (.ref l)=iX (qs.map λp=>if p.1=k then(p.1,p.2.1,l) else p):=by
 unfold sY;rw[A3]
 ·unfold iX;rw[qZ7,qZ7];apply D6
  intro p _;by_cases e:p.1=k<;>simp[e]
 ·refine qY h λp a e=>?_;exact qK3.mpr (qZ _ (T8.mpr (qZ p a rfl)) (dct e))
theorem c8{a:List (Nat×Addr×Addr)}{k:Nat}{u l:Addr}(h:k∉a.map (·.1)):sY (iX a) k u (.ref l)=iX (a++[(k,u,l)]):=by
 unfold sY;rw[D9]
 ·unfold iX;rw[C8];rfl
 ·intro e;refine qY (qK3.mp e) λx b e=>qY (T8.mp b) λp c d=>?_;subst d;exact h (T8.mpr (qZ p c (of_decide_eq_true e)))
theorem Ce:∀{L:List Ask},(∀b∈L,b.c=c↔b.zZ=w)->(((L.filter λb=>b.name=k).map λb=>AV.ref b.c).filterMap λv=>if v=.ref c then none else some v)=(((L.filter λb=>b.zZ≠w).filter λb=>b.name=k).map λb=>AV.ref b.c):=by
 intro L;induction L with
 |nil=>
  exactλ_=>rfl
 |cons b L g=>
  intro h;have d:=g λb e=>h b (S9 _ e);have e:=h b (by simp);by_cases a:b.zZ=w<;>by_cases f:b.name=k
  ·have i:=e.mpr a;simp only[A6,a,f,decide_true,if_true,B6,A8,i,ne_eq,not_true,decide_false,Bool.false_eq_true,if_false];exact d
  ·simp only[A6,a,f,decide_false,Bool.false_eq_true,if_false,ne_eq,not_true];exact d
  ·have i:(AV.ref b.c=AV.ref c)=False:=eq_false λq=>a (e.mp (by injection q));simp only[A6,a,f,decide_true,if_true,B6,A8,i,ne_eq,not_false_eq_true,if_false];exact cgA _ d
  ·simp only[A6,a,f,decide_false,Bool.false_eq_true,if_false,ne_eq,not_false_eq_true,decide_true,if_true];exact d
theorem Ca{L:List Ask}(h:∀b∈L,b.zZ=w->b.name≠k):(L.filter λb=>b.name=k)=((L.filter λb=>b.zZ≠w).filter λb=>b.name=k):=by
 refine qX (qI5) ?_;apply qP5
 intro b a;by_cases e:b.zZ=w
 ·have:=h b a e;simp[this]
 ·simp[e]
theorem Ci{a:List (Nat×Addr×Addr)}(h:(a.map (·.1)).Nodup)(g:(a.map (·.2.2)).Nodup)(f:∀p∈a,p.2.2≠l):((a.map λp=>if p.1=k then(p.1,p.2.1,l) else p).map (·.2.2)).Nodup:=by
 induction a with
 |nil=>exact .nil
 |cons x r i=>
  rw[B6,O5] at h g;rw[B6,B6,O5];refine⟨λj=>?_,i h.2 g.2 λp b=>f p (S9 _ b)⟩;refine qY (T8.mp j) λy m e=>qY (T8.mp m) λp b n=>?_;subst n;by_cases c:p.1=k<;>by_cases d:x.1=k
  ·exact h.1 (T8.mpr (qZ p b (c.trans d.symm)))
  ·rw[A3 c,D9 d] at e;exact f x (by simp) e.symm
  ·rw[D9 c,A3 d] at e;exact f p (S9 _ b) e
  ·rw[D9 c,D9 d] at e;exact g.1 (T8.mpr (qZ p b e))
theorem Sp(h:(qs.map (·.1)).Nodup)(a:∀p∈qs,p.1∈jS):(iX qs).length<1000:=by
 have:=oW (l:=qs.map λp=>(p.1,AV.none)) (qX qZ7 h) λp b=>by
  refine qY (T8.mp b) λx c d=>?_;subst d;have f:=a x c;have:∀k∈jS,k<NN:=by decide
  exact this _ f
 rw[S6] at this;have e:(iX qs).length=qs.length:=S6 ..;have:NN=267:=rfl;lia
theorem zW.Sg(h:zW P τ eQ nl H){d:List Ask}(k:qV {ml:=[3],mt:=[2]} H H')(m:∀a∈d,a.zZ<P.n∧(∃f,H'.obj 195 (P.ts a.zZ)=some f∧f 26=some (.ref a.c))∧(∃f,H'.obj 138 a.c=some f∧sS P a H'.tup f))(j:∀a∈d,a.num≤eQ)
  (e:(d.map (·.num)).Nodup) (n:∃g,H'.td 2 P.q=some (iX g)∧QIs P d H'.tup (H'.lst 3) g):zW P {τ with asks:=d} eQ nl H' where
 C:=h.C.keep (k.lE)
 task:=λi o=>qY (h.task i o) λf a b=>qZ f (k.yB a) (b.keep k)
 asks:=m
 Fg:=j
 apart:=e
 queue:=n
 tk:=wV h.tk λf lo a b c=>xO f lo (k.yB a) b (k.zS c)
 ck:=qY h.ck λf a b=>qZ f (k.yB a) b
 th:=zX h.th λf a b c=>zU f (k.yB a) ({b with line:=qY b.line λl x y=>(qZ l x (k.zS y))}) c
 told:=k.zS h.told
theorem Sf{asks:List Ask}(h:(asks.map (·.num)).Nodup){a b:Ask}(g:a∈asks)(i:b∈asks)(e:a.num=b.num):a=b:=by
 induction asks with
 |nil=>cases g
 |cons x r j=>
  rw[B6,O5] at h;rcases E3.mp g with c|c<;>rcases E3.mp i with d|d
  ·exact c.trans d.symm
  ·rw[<-c,e] at h;exact absurd (qZ1 (f:=λx:Ask=>x.num) d) h.1
  ·rw[<-d,<-e] at h;exact absurd (qZ1 (f:=λx:Ask=>x.num) c) h.1
  ·exact j h.2 c d
theorem zW.Sh(h:zW P τ eQ nl H){a b:Ask}(i:a∈τ.asks)(d:b∈τ.asks)(e:a.c=b.c):a=b:=by
 refine wH (h.asks a i) λ_ _ c=>qY c λf u v=>wH (h.asks b d) λ_ _ c=>qY c λg j k=>?_;rw[e] at u;obtain rfl:=sj u j;have:=v.number.symm.trans k.number;injection this with this
 injection this with this
 exact Sf h.apart i d this
theorem Sm(T:Z.xR)(I:zW P τ eQ nl H){a:Ask}(o:a∈τ.asks)(J:∀b∈τ.asks,b.zZ=a.zZ->b=a)(aa:τ.asks.length<1000)(q:∀H',zW P (τ.drop a.zZ) eQ nl H'->qV {mt:=[2]} H H'->Q .none H'):qB Z (n+1) 154 [.ref P.q,.ref a.c] H Q qM:=by
 refine qY I.queue λA K W=>wH (I.asks a o) λ_ _ h=>qY h λf B V=>?_;clear h;refine qY V.key λkt L N=>?_;refine f9 T (Zz T) rfl λc D=>?_;have O:qV {mt:=[2]} H (H.qU 26 c (some (.ref a.c))):=qV.refl.qU D;have i:(H.qU 26 c (some (.ref a.c))).qG 26 c=some (some (.ref a.c)):=qS ..;refine Gz<|dD<|Un (.N9 rfl) K (.R4 (.qG rfl i) B L) N λR E=>?_;have t:=O.qQ (C:=3) (a:=R) (f:=[]) (.inr (O.fr _ E));rcases W.look a.name with S|U
 ·refine cN S λp k F e hl=>?_;clear S;refine qX (e) ?_;have r:=t.zS hl;refine qZ p.2.2 rfl (zU _ r ?_ (Pa (λv=>if v=.ref a.c then none else some v) r ?_ ?_))
  ·have:(τ.gJ a.name).length≤τ.asks.length:=E9 ..;rw[S6];lia
  ·intro v hv;refine qY (T8.mp hv) λb d h=>?_;subst h;have d:=(T6.mp d).1;refine wH (I.asks b d) λ_ _ h=>qY h λg hg V2=>?_;clear h;have w:Rd Z n (λx=>if x=26 then some c else none) qM (M.one 15 (.ref b.c)) ((H.qU 26 c (some (.ref a.c))).qQ 3 R []) (.R6 .tU (.R4 138 (.N9 15) 113) (.R4 138 (.qG 26) 113)) (.bool (!decide (b.num=a.num))):=
    .R6 (.R4 (.N9 rfl) hg V2.number) (.R4 (.qG rfl i) B V.number) rfl
   by_cases m:b=a
   ·subst m;rw[dct rfl] at w;exact .inr ⟨A3 rfl,.vY (.val w rfl)⟩
   ·have hn:b.num≠a.num:=λe=>m (Sf I.apart d o e);have D:b.c≠a.c:=λe=>m (I.Sh d o e);rw[dcf hn] at w;exact .inl (zU _ (D9 (λe=>D (by injection e))) (.yC (.val w rfl) .uK) (.N9 rfl))
  ·intro l s;have X:=t.qQ (C:=3) (a:=l) (f:=((τ.gJ a.name).map λb=>AV.ref b.c).filterMap λv=>if v=.ref a.c then none else some v) (.inr (t.fr _ s));refine zR8 (.N9 rfl) (.R4 (.qG rfl i) B L) K (X.tup _ _ N) (Sp W.keys λp k=>(W.each p k).1) (qP ?_);refine qX (zZ9 (qZ p k F)) ?_;have j:=X.xD (C:=2) (a:=P.q) (f:=iX (A.map λp=>if p.1=a.name then(p.1,p.2.1,l) else p)) (.inl (by decide));refine q _ (I.Sg (j.lE) (λb d=>?_) (λb d=>I.Fg b (T6.mp d).1) ?_ (qZ _ (uF ..) ?_)) j
   ·refine wH (I.asks b (T6.mp d).1) λx h Y=>qY h λg y z=>?_;clear h;refine qY Y λg2 u v=>?_;clear Y;exact oQ x (qZ g (j.yB y) z) (qZ g2 (j.yB u) (v.keep j))
   ·exact I.apart.sublist (List.Sublist.map _ qJ8)
   ·have e1:(A.map λp=>if p.1=a.name then(p.1,p.2.1,l) else p).map (·.1)=A.map (·.1):=by
     refine qX qZ7 ?_;apply D6;intro p _;by_cases e:p.1=a.name<;>simp[e]
    refine⟨e1▸W.keys,?_,λp' G=>?_,λb d=>e1▸W.all b (T6.mp d).1⟩
    ·refine Ci W.keys W.apart λp k e=>?_;exact absurd (t.fr _ s) λhf=>hf.sB (W.each p k).2.2 e
    ·refine qY (T8.mp G) λp k h=>?_;subst h;refine wH (W.each p k) λx y z=>?_;by_cases e:p.1=a.name
     ·refine qX (A3 e) ?_;refine⟨x,j.tup _ _ y,?_⟩;refine(qW ..).trans (cgA some ?_);refine qX (e) ?_;exact Ce λb d=>⟨λq=>qX (I.Sh d o q) rfl,λq=>qX (J b d q) rfl⟩
     ·refine qX (D9 e) ?_;refine⟨x,j.tup _ _ y,(j.zS z).trans (cgA some (cgA (qU7 λb:Ask=>AV.ref b.c) (Ca λb d q=>?_)))⟩;exact qX (J b d q) (λq=>e q.symm)
 ·refine wH U λ_ e _=>?_;clear U;exact absurd (T6.mpr ⟨o,dct rfl⟩) (by unfold TT.gJ at e;refine qX e ?_;simp)
theorem Ur(h:wE Z n F R e m (λv f=>T9 (rf v) λt=>T9 (f.lst tg t) λvs=>fU (λH'=>H'.lst tg t=some vs) (λx m' g H'=>if c=true then T9 (F k) λa=>T9 (H'.qG k a) λ_=>O6 Z n F R b m' g (H'.qU k a (some x)) else O6 Z n F R b (up m' k x) g H') vs m (λd m' H'=>match d with|.next=>O6 Z n F R r m' Q H'|d=>Q d m' H') f) H):O6 Z n F R (.cons (.yM c k (.lst tg) e b) r) m Q H:=h
theorem Sn(h:jR Z n F R m H t false)(q:O6 Z n F R r m Q H):O6 Z n F R (.cons (.Jr t b) r) m Q H:=⟨1,h _ (show(if false=true then _ else _) from qX (D9 Bool.false_ne_true) q)⟩
theorem Us(τ:TT)(i:Nat):τ.xH i (τ.t i)=τ:=by
 have:(λj=>if j=i then τ.t i else τ.t j)=τ.t:=by funext j;by_cases e:j=i<;>simp[e]
 unfold TT.xH;rw[this]
theorem kJ.upA(h:kJ P i x tup f)(d:k∉[113,86,57,99,116,216,107,181,115,149,142]):kJ P i x tup (up f k v):=by
 have e:∀j,j∈[113,86,57,99,116,216,107,181,115,149,142]->up f k v j=f j:=λj g=>D9 (λq:j=k=>d (q▸g));exact⟨(e _ (by decide)).trans h.number,(e _ (by decide)).trans h.state,(e _ (by decide)).trans h.wake,qY h.answer λa b c=>(qZ a ((e _ (by decide)).trans b) c),(e _ (by decide)).trans h.raised,qY h.Uh λa b c=>(qZ a ((e _ (by decide)).trans b) c),
  (e _ (by decide)).trans h.inside,(e _ (by decide)).trans h.wL,(e _ (by decide)).trans h.wD,(e _ (by decide)).trans h.xK,(e _ (by decide)).trans h.wA⟩
structure TT.Wf(P:xZ)(τ:TT):Prop where
 once:∀a∈τ.asks,∀b∈τ.asks,b.zZ=a.zZ->b=a
 call:∀i,i<P.n->((τ.t i).st=.zL↔∃a∈τ.asks,a.zZ=i)
 name:∀a∈τ.asks,a.name∈jS
 len:τ.asks.length≤4
 woke:∀i,i<P.n->(τ.t i).st≠.zL->(τ.t i).st≠.delayed->(τ.t i).wake=none
 meet:∀i,i<P.n->(τ.t i).st≠.kS
 nodup:(τ.asks.map (·.zZ)).Nodup
theorem Gw(T:Z.xR)(I:zW P τ eQ nl H)(W:τ.Wf P)(d:a∈τ.asks)(q:∀H',zW P (τ.drop a.zZ) eQ nl H'->qV MT H H'->Q .none H'):qB Z (n+2) 227 [.ref a.c] H Q qM:=by
 refine wH (I.asks a d) λj _ s=>qY s λf k V=>zX I.th λg u v _=>?_;refine uI T (Zy T) rfl<|zA (.cons (.R4 (.R4 (.N9 rfl) k V.target) u v.wD) (.cons (.N9 rfl) .nil))<|Sm T I d (W.once a d) (Nat.lt_of_le_of_lt W.len (by decide)) λz w l=>?_;have h:=l.yB k;have m:=w.uH (c:=a.c) (f':=up f 86 (.str 43)) λb i e=>by
  refine qK (T6.mp i) λx o=>?_;rw[I.Sh x d e] at o;simp at o
 have y:=(l.le (N:=MT) (by decide)).zR (C:=138) (a:=a.c) (f:=up f 86 (.str 43));refine qY (m.task _ j) λt p Wk=>?_;refine wY .R5 (.N9 rfl) h<|wY .R3 (.R4 (.N9 rfl) (qJ ..) V.caller) p<|qP (q _ ?_ (y.zR));have r:=m.jX (f':=up t 26 .none) j p (Wk.upA (by decide)) (.inl λb i=>by simpa using(T6.mp i).2);rw[Us] at r;exact r
theorem iC(W:τ.Wf P)(I:zW P τ eQ nl H)(hi:i<P.n)(d:(τ.t i).st=.zL):∃a∈τ.asks,a.zZ=i∧∀f,H.obj 195 (P.ts i)=some f->f 26=some (.ref a.c):=by
 refine qY ((W.call i hi).mp d) λa c b=>?_;subst b;refine wH (I.asks a c) λ_ b _=>qY b λg e h=>?_;exact zU a c rfl (λf j=>by obtain rfl:=sj e j;exact h)
noncomputable def Pb.isC(x:Pb):Bool:=decide (x=.zL)
theorem rB(y:Pb)(a:k=y.code):U5 (.str x.code) (.str k)=some (decide (x=y)):=by
 subst a;cases x<;>cases y<;>rfl
theorem aF(T:Z.xR)(I:zW P τ eQ nl H)(W:τ.Wf P)(j:nl<1000)(hi:i<P.n)(q:∀H',zW P τ eQ (nl+if(τ.t i).st=.zL then 1 else 0) H'->qV MT H H'->Q .none H'):qB Z (n+1) 234 [.ref P.tk,.ref (P.ts i)] H Q qM:=by
 refine qY (I.task i hi) λf c Wk=>?_;refine uI T (Vc T) rfl ?_;by_cases b:(τ.t i).st=.zL
 ·refine zX (iC W I hi b) λa k d l=>?_;subst d;refine wH (I.asks a k) λ_ _ d=>qY d λg m V=>wV I.tk λt lo e h o=>?_;refine wI (.val (.R6 (.R4 (.N9 rfl) c Wk.state) .R5 (qX b rfl)) rfl)<|mN (.R4 (.N9 rfl) e h.Mc) o (.R4 (.R4 (.N9 rfl) c (l f c)) m V.target) (by rw[qK1];lia)<|qP<|qP (q _ ?_ (qV.refl.zY));refine qX (A3 b) ?_;have:=I.setLost (nl':=nl+1) e h.Mc;replace this:=List.replicate_succ'▸this;exact this
 ·refine wW (.val (.R6 (.R4 (.N9 rfl) c Wk.state) .R5 ((rB .zL rfl).trans (cgA some (dcf b)))) rfl)<|qP (q _ ?_ qV.refl);exact qX (D9 b) (I)
theorem Co(T:Z.xR)(h:H.obj 195 t=some f)(a:f 181=some .none)(q:Q .none (H.qL 195 t (up f 181 .none))):qB Z (n+1) 290 [.ref t,v] H Q qM:=
 uI T (bN T) rfl<|jW (.R4 (.N9 rfl) h a)<|wY .R3 (.N9 rfl) h<|wI (.val (.R6 (.N9 rfl) .R3 rfl) rfl)<|Uf q
noncomputable def lQ.fin(x:lQ):lQ:=⟨.qC,none,x.fS,x.ab⟩
theorem sD(T:Z.xR)(I:zW P τ eQ nl H)(hi:i<P.n)(w:(τ.t i).st≠.done)(q:∀H',zW P (τ.xH i (τ.t i).fin) eQ nl H'->qV MT H H'->Q .none H'):qB Z (n+2) 316 [.ref (P.ts i)] H Q qM:=by
 refine qY (I.task i hi) λf r Wk=>wH (I.C.sub i hi) λy m o=>?_;refine uI T (dG T) rfl<|Ur<|qE<|(Wn.cons (.R4 (.N9 rfl) r Wk.wD) .nil) _<|c7 T y λl B d h=>qZ l rfl (qZ ([]) h ⟨h,?_⟩);have z:=I.keep (d.lE);have g:=d.yB r;have d:=d.le (N:=MT) (by decide);refine Sn (.lst (.R4 (.N9 rfl) g Wk.xK) (d.zS m))<|gI (λ_ _=>.N9 rfl) g λl h=>qN .R3 (.N9 rfl)<|qN .R5 (.N9 rfl) ?_;have k:=d.qQ (C:=10) (f:=[]) (.inr (d.fr _ h));have A:=z.keep (qV.refl.qQ (C:=10) (f:=[]) (.inr h));have s:=k.zS o;refine qY Wk.Uh λb t p=>?_;have u:=A.jX (x:=(τ.t i).fin) (f':=up (up (up f 42 (.ref l)) 57 .none) 86 (.str 182)) hi g ⟨Wk.number,rfl,rfl,qY Wk.answer λa e q=>qZ a e (q.keep k),Wk.raised,qZ b t (λ_=>p w),Wk.inside,Wk.wL,Wk.wD,Wk.xK,Wk.wA⟩ (.inr rfl);have D:=k.qL (C:=195) (a:=P.ts i) (f:=up (up (up f 42 (.ref l)) 57 .none) 86 (.str 182)) (.inl (by decide));refine Mb (.R4 (.N9 rfl) (qJ ..) (by exact Wk.wA)) s ⟨s,zA (.cons (.N9 rfl) (.cons (.not (.R4 (.N9 rfl) (qJ ..) (by exact t)) rfl) .nil)) ?_⟩;refine Co T (qJ ..) (by exact Wk.wL) (qP ?_);rw[xE];refine qY (u.task i hi) λE j c=>?_;obtain rfl:=B5 ((qJ ..).symm.trans j);have v:=u.jX (f':=up (up (up (up f 42 (.ref l)) 57 .none) 86 (.str 182)) 181 .none) hi j ⟨c.number,c.state,c.wake,c.answer,c.raised,c.Uh,c.inside,rfl,c.wD,c.xK,c.wA⟩ (.inr rfl);rw[Us,xE] at v;exact q _ v (k.zR)
theorem fI{A B:Prop}(h:A):if true=true then A else B:=qX (A3 rfl) h
theorem mR{A B:Prop}(h:B):if false=true then A else B:=qX (D9 Bool.false_ne_true) h
theorem dE{ts:dW}{K:Bool->St->Prop}(h:xT Z n F R ts m K H):wT Z n F R (.and ts) m K H:=h
theorem nF{ts:dW}{K:Bool->St->Prop}(h:jR Z n F R m H t true)(k:xT Z n F R ts m K H):xT Z n F R (.cons t ts) m K H:=h _ (fI k)
theorem Sr{ts:dW}{K:Bool->St->Prop}(h:jR Z n F R m H t false)(k:K false H):xT Z n F R (.cons t ts) m K H:=h _ (mR k)
theorem pJ{ts:dW}{K:Bool->St->Prop}(h:wT Z n F R t m (λb a=>if b=true then xT Z n F R ts m K a else K false a) H):xT Z n F R (.cons t ts) m K H:=h
theorem c9{ts:dW}{K:Bool->St->Prop}(h:oB Z n F R ts m K H):wT Z n F R (.or ts) m K H:=h
theorem mS{ts:dW}{K:Bool->St->Prop}(h:wT Z n F R t m (λb a=>if b=true then K true a else oB Z n F R ts m K a) H):oB Z n F R (.cons t ts) m K H:=h
theorem Md{K:Bool->St->Prop}(h:wT Z n F R t m (λb a=>K (!b) a) H):wT Z n F R (.not t) m K H:=h
theorem xM{K:Bool->St->Prop}(h:wE Z n F R e m (λv a=>T9 (qL1 a v) λb=>K b a) H):wT Z n F R (.val e) m K H:=h
theorem dA{K:Bool->St->Prop}(h:K true H):xT Z n F R .nil m K H:=h
theorem Ut{K:Bool->St->Prop}(h:K false H):oB Z n F R .nil m K H:=h
theorem jV{Q:Fl->M->St->Prop}(h:wT Z n F R t m (λc b=>if c=true then O6 Z n F R p m (λa m' H'=>match a with|.next=>O6 Z n F R r m' Q H'|a=>Q a m' H') b else O6 Z n F R q m (λa m' H'=>match a with|.next=>O6 Z n F R r m' Q H'|a=>Q a m' H') b) H):O6 Z n F R (.cons (.ite t p q) r) m Q H:=h
section
variable{P:xZ}{τ:TT}
noncomputable def lQ.xX(x:lQ):Bool:=x.ab&&!decide (x.st=.qC)&&!decide (x.st=.done)
noncomputable def TT.sA(τ:TT)(j:Nat):TT:={τ with t:=λi=>if i<j∧(τ.t i).xX=true then(τ.t i).fin else τ.t i,asks:=τ.asks.filter λa=>!(decide (a.zZ<j)&&(τ.t a.zZ).xX)}
noncomputable def TT.Zt(τ:TT):Nat->Nat
 |0=>0
 |j+1=>if(τ.t j).xX=true∧(τ.t j).st=.zL then τ.Zt j+1 else τ.Zt j
noncomputable def TT.P9(τ:TT):Nat->Bool
 |0=>false
 |j+1=>if(τ.t j).xX=true then true else τ.P9 j
theorem Gx(τ:TT)(j:Nat):τ.Zt (j+1)=if(τ.t j).xX=true∧(τ.t j).st=.zL then τ.Zt j+1 else τ.Zt j:=rfl
theorem Sb(τ:TT)(j:Nat):τ.P9 (j+1)=if(τ.t j).xX=true then true else τ.P9 j:=rfl
theorem uL{t t':Nat->lQ}{a a':List Ask}(b:t=t')(c:a=a'):(⟨t,a,d,z⟩:TT)=⟨t',a',d,z⟩:=qX b (qX c rfl)
theorem Me(τ:TT):∀j,τ.Zt j≤j
 |0=>Nat.le_refl _
 |j+1=>by have:=Me τ j;rw[Gx];split<;>lia
theorem zN0(τ:TT):τ.sA 0=τ:=by
 have b:(λi=>if i<0∧(τ.t i).xX=true then(τ.t i).fin else τ.t i)=τ.t:=by funext i;rw[D9];rintro⟨h,_⟩;exact Nat.not_lt_zero i h
 have c:τ.asks.filter (λa=>!(decide (a.zZ<0)&&(τ.t a.zZ).xX))=τ.asks:=qQ6.mpr λa _=>by simp
 unfold TT.sA;rw[b,c]
theorem e8(τ:TT)(j:Nat):(τ.sA j).t j=τ.t j:=by
 show(if j<j∧_ then _ else _)=_;rw[D9];rintro⟨h,_⟩;exact Nat.lt_irrefl j h
theorem iD{α:Type}{j:Nat}{P:Nat->Prop} [∀i,Decidable (P i)]{f g:Nat->α}(h:¬P j):(λi=>if i<j∧P i then f i else g i)=λi=>if i<j+1∧P i then f i else g i:=by
 funext i
 by_cases c:i<j∧P i
 ·exact qX (A3 c) (A3 ⟨Nat.lt_succ_of_lt c.1,c.2⟩).symm
 ·refine qX (D9 c) (D9 λq=>?_).symm;rcases Nat.lt_or_eq_of_le (Nat.le_of_lt_succ q.1) with e|e
  ·exact c ⟨e,q.2⟩
  ·exact h (e▸q.2)
theorem cY{α:Type}{j:Nat}{P:Nat->Prop} [∀i,Decidable (P i)]{f g:Nat->α}(h:P j):(λi=>if i=j then f j else if i<j∧P i then f i else g i)=λi=>if i<j+1∧P i then f i else g i:=by
 funext i
 by_cases e:i=j
 ·subst e;exact qX (A3 rfl) (A3 ⟨Nat.lt_succ_self i,h⟩).symm
 ·refine qX (D9 e) ?_;by_cases c:i<j∧P i
  ·exact qX (A3 c) (A3 ⟨Nat.lt_succ_of_lt c.1,c.2⟩).symm
  ·exact qX (D9 c) (D9 λq=>c ⟨Nat.lt_of_le_of_ne (Nat.le_of_lt_succ q.1) e,q.2⟩).symm
theorem Ub{l:List Ask}{j:Nat}{b:Nat->Bool}(h:b j=false):(l.filter λa=>!(decide (a.zZ<j)&&b a.zZ))=l.filter λa=>!(decide (a.zZ<j+1)&&b a.zZ):=by
 apply qP5
 intro a _;by_cases e:a.zZ=j
 ·simp[e,h]
 ·have:(a.zZ<j+1)↔a.zZ<j:=by lia
  simp[this]
theorem Zb{l:List Ask}{j:Nat}{b:Nat->Bool}(h:b j=true):((l.filter λa=>!(decide (a.zZ<j)&&b a.zZ)).filter λa=>a.zZ≠j)=l.filter λa=>!(decide (a.zZ<j+1)&&b a.zZ):=by
 refine qX (qI5) ?_;apply qP5
 intro a _;by_cases e:a.zZ=j
 ·simp[e,h]
 ·have:(a.zZ<j+1)↔a.zZ<j:=by lia
  simp[e,this]
theorem zV3{j:Nat}(h:(τ.t j).xX=true):((τ.sA j).drop j).xH j (τ.t j).fin=τ.sA (j+1):=uL (cY (P:=λi=>(τ.t i).xX=true) h) (Zb (b:=λi=>(τ.t i).xX) h)
theorem e9{j:Nat}(h:(τ.t j).xX=false):τ.sA j=τ.sA (j+1):=uL (iD (P:=λi=>(τ.t i).xX=true) (ne_true_of_eq_false h)) (Ub (b:=λi=>(τ.t i).xX) h)
theorem Wf.sA(W:τ.Wf P)(j:Nat):(τ.sA j).Wf P where
 once:=λa d b l e=>W.once a (T6.mp d).1 b (T6.mp l).1 e
 call:=λi f=>by
  show(if i<j∧(τ.t i).xX=true then(τ.t i).fin else τ.t i).st=_↔_;by_cases c:i<j∧(τ.t i).xX=true
  ·refine qX (A3 c) ?_;refine⟨(λh=>nomatch h),λg=>qY g λa d e=>?_⟩;subst e;have:=(T6.mp d).2;simp[c.1,c.2] at this
  ·rw[D9 c,W.call i f];refine⟨λg=>qY g λa d e=>qZ a (T6.mpr ⟨d,?_⟩) e,λg=>qY g λa d e=>qZ a ((T6.mp d).1) e⟩;subst e;by_cases k:a.zZ<j
   ·have:(τ.t a.zZ).xX=false:=by
     cases h:(τ.t a.zZ).xX with
     |false=>rfl
     |true=>exact absurd ⟨k,h⟩ c
    simp[this]
   ·simp[k]
 name:=λa d=>W.name a (T6.mp d).1
 len:=Nat.le_trans (E9 ..) W.len
 woke:=λi f=>by
  show(if i<j∧(τ.t i).xX=true then(τ.t i).fin else τ.t i).st≠_->(if i<j∧(τ.t i).xX=true then(τ.t i).fin else τ.t i).st≠_->(if i<j∧(τ.t i).xX=true then(τ.t i).fin else τ.t i).wake=_;split
  ·exactλ_ _=>rfl
  ·exact W.woke i f
 meet:=λi f=>by
  show(if i<j∧(τ.t i).xX=true then(τ.t i).fin else τ.t i).st≠_;split
  ·exactλh=>by cases h
  ·exact W.meet i f
 nodup:=W.nodup.sublist (qJ8.map _)
end
section
variable{Z:Ctx}{P:xZ}{τ:TT}
theorem wY0(T:Z.xR)(I:zW P τ eQ nl H)(W:τ.Wf P){i:Nat}(hi:i<P.n)(h:P.ins i=0)(q:Q (.bool false) H):qB Z (n+1) 330 [.ref (P.ts i)] H Q qM:=by
 refine qY (I.task i hi) λf b Wk=>?_;have c:=Wk.inside;rw[h] at c;refine uI T (Mf T) rfl<|wW (.Pt (.val (.R6 (.R4 (.N9 rfl) b Wk.state) .R5 ((rB .kS rfl).trans (cgA some (dcf (W.meet i hi))))) rfl) (.Pt (.val (.R6 (.R4 (.N9 rfl) b c) .R3 rfl) rfl) .F7)) ?_;by_cases d:(τ.t i).st=.zL
 ·refine zX (iC W I hi d) λa j e k=>?_;subst e;refine wH (I.asks a j) λ_ _ e=>qY e λg l V=>?_;exact wB (.yC (.R6 (.R4 (.N9 rfl) b Wk.state) .R5 (qX d rfl)) rfl (.uK (.R4 (.R4 (.N9 rfl) b (k f b)) l V.Pc))) q
 ·exact wB (.vY (.R6 (.R4 (.N9 rfl) b Wk.state) .R5 ((rB .zL rfl).trans (cgA some (dcf d)))) rfl) q
theorem Dq(x:Pb):U5 (.str x.code) (.str 73)=some false:=by cases x<;>rfl
theorem Zc(T:Z.xR)(I:zW P τ eQ nl H)(W:τ.Wf P)(hi:i<P.n)(k:(τ.t i).st≠.done)(q:∀H',zW P ((τ.drop i).xH i (τ.t i).fin) eQ nl H'->qV MT H H'->Q .none H'):qB Z (n+3) 337 [.ref (P.ts i)] H Q qM:=by
 refine qY (I.task i hi) λf b Wk=>?_;refine uI T (aE T) rfl<|wW (.val (.R6 (.R4 (.N9 rfl) b Wk.state) .R5 (Dq _)) rfl) ?_;by_cases c:(τ.t i).st=.zL
 ·refine zX (iC W I hi c) λa d l g=>?_;subst l;exact wI (.val (.R6 (.R4 (.N9 rfl) b Wk.state) .R5 (by rw[c];rfl)) rfl)<|zA (.cons (.R4 (.N9 rfl) b (g f b)) .nil)<|Gw T I W d λr m o=>qP<|zA (.cons (.N9 rfl) .nil)<|sD T m hi k λp h j=>qP (q _ h (o.trans j))
 ·refine wW (.val (.R6 (.R4 (.N9 rfl) b Wk.state) .R5 ((rB .zL rfl).trans (cgA some (dcf c)))) rfl)<|zA (.cons (.N9 rfl) .nil)<|sD T I hi k λp h j=>qP (q _ ?_ j);have:τ.drop i=τ:=by
   have e:τ.asks.filter (λa=>a.zZ≠i)=τ.asks:=qQ6.mpr λa d=>dct λe=>c ((W.call i hi).mpr (qZ a d e));unfold TT.drop;rw[e]
  rw[this];exact h
theorem Sc(h:((B4 P.n).map λi=>AV.ref (P.ts i))[j]?=some v):j<P.n∧v=.ref (P.ts j):=by
 rw[D4] at h;refine qY (B8.mp h) λi b c=>?_;subst c;obtain⟨d,a⟩:=C7.mp b;rw[qW5] at a;subst a;exact⟨by simpa using d,rfl⟩
theorem Zd{x:Pb}(y:Pb)(a:k=y.code):lB .tU (.str x.code) (.str k) H=some (!decide (x=y)):=cgA (Option.map not) (rB y a)
theorem Uc(T:Z.xR)(I:zW P τ eQ nl H)(W:τ.Wf P)(D:∀i,P.ins i=0)(E:nl<900)(q:∀H',zW P (τ.sA P.n) eQ (nl+τ.Zt P.n) H'->qV MT H H'->Q (.bool (τ.P9 P.n)) H'):qB Z (n+4) 344 [.ref P.tk] H Q qM:=by
 refine wV I.tk λt lo F G _=>?_;refine uI T (sM T) rfl<|jW .R3<|kR (λj k H'=>zW P (τ.sA j) eQ (nl+τ.Zt j) H'∧qV MT H H'∧k 164=some (.bool (τ.P9 j))∧k 151=some (.ref P.tk)) (.R4 (.N9 rfl) F G.tasks) I.C.tl (λj k H' _ h=>h.1.C.tl) ?_ ⟨by rw[zN0];exact I,.refl,rfl,rfl⟩ ?_
 ·intro j v k H' K e J;refine jL J λl s u m=>?_;intro B _;refine qK (Sc e) λw L=>?_;subst L;refine qY (l.task j w) λf o Wk=>?_;rw[e8] at Wk;have y:=Wf.sA W j;have p:nl+τ.Zt j<1000:=by have:=Me τ j;have:=I.C.small;lia
  refine qY Wk.Uh λb M r=>?_;have x:jR Z (n+3) (λ_=>none) qM (up k 51 (.ref (P.ts j))) H' (.val (.R4 195 (.N9 51) 216)) b:=.val (.R4 (.N9 rfl) o M) rfl;have z:(τ.t j).xX=false->K .next (up k 51 (.ref (P.ts j))) H':=λh=>by
   refine B _ _ ⟨by rw[<-e9 h,Gx,D9 (by rw[h];simp)];exact l,s,?_,m⟩;rw[Sb,D9 (by rw[h];simp)];exact u
  cases b with
  |false=>
   refine wW (.vY x)<|qP (z ?_);unfold lQ.xX;by_cases d:(τ.t j).st=.done
   ·simp[d]
   ·simp[<-r d]
  |true=>
   by_cases g:(τ.t j).st=.qC
   ·exact wW (.yC x (.vY (.val (.R6 (.R4 (.N9 rfl) o Wk.state) .R5 ((Zd .qC rfl).trans (qX g rfl))) rfl)))<|qP (z (by simp[lQ.xX,g]))
   ·by_cases d:(τ.t j).st=.done
    ·exact wW (.yC x (.yC (.val (.R6 (.R4 (.N9 rfl) o Wk.state) .R5 ((Zd .qC rfl).trans (by rw[d];rfl))) rfl) (.vY (.val (.R6 (.R4 (.N9 rfl) o Wk.state) .R5 ((Zd .done rfl).trans (by rw[d];rfl))) rfl))))<|qP (z (by simp[lQ.xX,d]))
    ·have a:(τ.t j).xX=true:=by simp[lQ.xX,g,d,<-r d]
     have N:lB .tU (.str (τ.t j).st.code) (.str 182) H'=some true:=(Zd .qC rfl).trans (qX (dcf g) rfl);have O:lB .tU (.str (τ.t j).st.code) (.str 29) H'=some true:=(Zd .done rfl).trans (qX (dcf d) rfl);have A:((τ.sA j).t j).st≠.done:=by rw[e8];exact d
     refine jV<|dE<|nF x<|nF (.val (.R6 (.R4 (.N9 rfl) o Wk.state) .R5 N) rfl)<|nF (.val (.R6 (.R4 (.N9 rfl) o Wk.state) .R5 O) rfl)<|pJ<|Md<|xM<|qE<|(Wn.cons (.N9 rfl) .nil) _<|wY0 T l y w (D j) (qZ false rfl (fI<|dA<|fI ?_));refine zA (.cons (.N9 m) (.cons (.N9 rfl) .nil))<|aF T l y p w λY R S=>zA (.cons (.N9 rfl) .nil)<|Zc T R y w A λH3 C U=>jW .R3<|qP<|qP (B _ _ ⟨?_,(s.trans S).trans U,?_,m⟩)
     ·rw[e8,zV3 a] at C;have V:nl+τ.Zt (j+1)=nl+τ.Zt j+if(τ.t j).st=.zL then 1 else 0:=by
       rw[Gx];by_cases c:(τ.t j).st=.zL
       ·rw[A3 ⟨a,c⟩,A3 c];exact rfl
       ·rw[D9 (λh=>c h.2),D9 c];exact rfl
      exact qX (V) (C)
     ·rw[Sb,A3 a];rfl
 ·intro k H' X;refine jL X λl s u _=>?_;rw[S6,B9] at l u;exact wB (.N9 u) (q _ l s)
end
section
variable{Z:Ctx}{F:Fm}{R:Value->St->Prop}{H:St}{K:AV->St->Prop}
theorem Ud(h:jR Z n F R m H t true)(k:wE Z n F R a m K H):wE Z n F R (.ite t a b) m K H:=h _ (fI k)
theorem iE(h:jR Z n F R m H t false)(k:wE Z n F R b m K H):wE Z n F R (.ite t a b) m K H:=h _ (mR k)
theorem kU(h:wE Z n F R a m (λv d=>wE Z n F R b m (λu c=>T9 (lB op v u c) λr=>K (.bool r) c) d) H):wE Z n F R (.R6 op a b) m K H:=h
theorem rd(h:Rd Z n F R m H x a)(q:K a H):wE Z n F R x m K H:=h K q
theorem vU(h:Wn Z n F R m H es as)(q:G as H):wEs Z n F R es m G H:=h G q
theorem Dz(h:wE Z n F R e m (λv d=>T9 (rf v) λa=>T9 (d.lst tg a) λ_=>wE Z n F R x m (λu c=>T9 (c.lst tg a) λvs=>T9 (rf u) λb=>T9 (c.lst tg2 b) λus=>us=[]∧a≠b∧vs.length<1000000∧K .none (c.qQ tg a vs)) d) H):wE Z n F R (.extend tg tg2 e x) m K H:=h
theorem gO(h:H.lst s x=some vs)(a:H.lst t y=some us):lB (.iU s t) (.ref x) (.ref y) H=Xi vs us:=by
 show((H.lst s x).bind λvs=>(H.lst t y).bind λus=>Xi vs us)=_;exact qX h (qX a rfl)
theorem i6(h:H.lst s x=some vs)(a:H.lst t y=some us):lB (.Ay s t) (.ref x) (.ref y) H=(Xi vs us).map not:=by
 show((H.lst s x).bind λvs=>(H.lst t y).bind λus=>(Xi vs us).map not)=_;exact qX h (qX a rfl)
theorem uN(vs:List AV):Xi vs []=some (decide (vs=[])):=by
 cases vs with
 |nil=>rfl
 |cons v r=>rfl
end
section
variable{P:xZ}{τ:TT}
noncomputable def TT.fE(τ:TT)(j:Nat):TT:={τ with t:=λi=>if i<j∧(τ.t i).st=.qC then{τ.t i with st:=.done} else τ.t i}
noncomputable def TT.G5(τ:TT):Nat->Bool
 |0=>false
 |j+1=>if(τ.t j).st=.qC then true else τ.G5 j
theorem Sd(τ:TT)(j:Nat):τ.G5 (j+1)=if(τ.t j).st=.qC then true else τ.G5 j:=rfl
theorem i7(τ:TT):τ.fE 0=τ:=by
 have a:(λi=>if i<0∧(τ.t i).st=.qC then{τ.t i with st:=.done} else τ.t i)=τ.t:=by funext i;rw[D9];rintro⟨h,_⟩;exact Nat.not_lt_zero i h
 unfold TT.fE;rw[a]
theorem i8(τ:TT)(j:Nat):(τ.fE j).t j=τ.t j:=by
 show(if j<j∧_ then _ else _)=_;rw[D9];rintro⟨h,_⟩;exact Nat.lt_irrefl j h
theorem i9(h:(τ.t j).st=.qC):(τ.fE j).xH j {τ.t j with st:=.done}=τ.fE (j+1):=uL (cY (P:=λi=>(τ.t i).st=.qC) (f:=λi=>{τ.t i with st:=.done}) h) rfl
theorem Se(h:(τ.t j).st≠.qC):τ.fE j=τ.fE (j+1):=uL (iD (P:=λi=>(τ.t i).st=.qC) h) rfl
theorem Wf.fE(W:τ.Wf P)(j:Nat):(τ.fE j).Wf P where
 once:=W.once
 call:=λi a=>by
  show(if i<j∧(τ.t i).st=.qC then{τ.t i with st:=.done} else τ.t i).st=_↔_;by_cases c:i<j∧(τ.t i).st=.qC
  ·refine qX (A3 c) ?_;refine⟨(λh=>nomatch h),λe=>?_⟩;have:=(W.call i a).mpr e;rw[c.2] at this;cases this
  ·exact qX (D9 c) (W.call i a)
 name:=W.name
 len:=W.len
 woke:=λi a=>by
  show(if i<j∧(τ.t i).st=.qC then{τ.t i with st:=.done} else τ.t i).st≠_->(if i<j∧(τ.t i).st=.qC then{τ.t i with st:=.done} else τ.t i).st≠_->(if i<j∧(τ.t i).st=.qC then{τ.t i with st:=.done} else τ.t i).wake=_;by_cases c:i<j∧(τ.t i).st=.qC
  ·refine qX (A3 c) ?_;exactλ_ _=>W.woke i a (by rw[c.2];decide) (by rw[c.2];decide)
  ·exact qX (D9 c) (W.woke i a)
 meet:=λi a=>by
  show(if i<j∧(τ.t i).st=.qC then{τ.t i with st:=.done} else τ.t i).st≠_;split
  ·exactλh=>nomatch h
  ·exact W.meet i a
 nodup:=W.nodup
theorem wU7(h:τ.P9 j=false):∀i,i<j->(τ.t i).xX=false:=by
 induction j with
 |zero=>intro i a;exact False.elim (Nat.not_lt_zero i a)
 |succ j b=>
  rw[Sb] at h;intro i a;by_cases c:(τ.t j).xX=true
  ·rw[A3 c] at h;cases h
  ·rw[D9 c] at h;by_cases e:i=j
   ·subst e;simpa using c
   ·exact b h i (Nat.lt_of_le_of_ne (Nat.le_of_lt_succ a) e)
theorem wL4(h:τ.G5 j=false):∀i,i<j->(τ.t i).st≠.qC:=by
 induction j with
 |zero=>intro i a;exact False.elim (Nat.not_lt_zero i a)
 |succ j b=>
  rw[Sd] at h;intro i a;by_cases c:(τ.t j).st=.qC
  ·rw[A3 c] at h;cases h
  ·rw[D9 c] at h;by_cases e:i=j
   ·subst e;exact c
   ·exact b h i (Nat.lt_of_le_of_ne (Nat.le_of_lt_succ a) e)
theorem dI(h:∀i,i<j->(τ.t i).xX=false):τ.sA j=τ:=by
 induction j with
 |zero=>exact zN0 τ
 |succ j a=>rw[<-e9 (h j (Nat.lt_succ_self j))];exact a λi b=>h i (Nat.lt_succ_of_lt b)
theorem Ze(h:∀i,i<j->(τ.t i).xX=false):τ.Zt j=0:=by
 induction j with
 |zero=>rfl
 |succ j a=>rw[Gx,D9 (by rw[h j (Nat.lt_succ_self j)];simp)];exact a λi b=>h i (Nat.lt_succ_of_lt b)
theorem zR9(h:∀i,i<j->(τ.t i).xX=false):τ.P9 j=false:=by
 induction j with
 |zero=>rfl
 |succ j a=>rw[Sb,D9 (by rw[h j (Nat.lt_succ_self j)];simp)];exact a λi b=>h i (Nat.lt_succ_of_lt b)
theorem iA(h:∀i,i<j->(τ.t i).st≠.qC):τ.fE j=τ:=by
 induction j with
 |zero=>exact i7 τ
 |succ j a=>rw[<-Se (h j (Nat.lt_succ_self j))];exact a λi b=>h i (Nat.lt_succ_of_lt b)
theorem wV3(h:∀i,i<j->(τ.t i).st≠.qC):τ.G5 j=false:=by
 induction j with
 |zero=>rfl
 |succ j a=>rw[Sd,D9 (h j (Nat.lt_succ_self j))];exact a λi b=>h i (Nat.lt_succ_of_lt b)
theorem cJ(hi:i<j):((τ.sA j).t i).xX=false:=by
 show(if i<j∧(τ.t i).xX=true then(τ.t i).fin else τ.t i).xX=false;by_cases c:(τ.t i).xX=true
 ·refine qX (A3 ⟨hi,c⟩) ?_;simp[lQ.xX,lQ.fin]
 ·refine qX (D9 (λh=>c h.2)) ?_;simpa using c
theorem Yr(h:(τ.t i).xX=false):((τ.fE j).t i).xX=false:=by
 show(if i<j∧(τ.t i).st=.qC then{τ.t i with st:=.done} else τ.t i).xX=false;split
 ·simp[lQ.xX]
 ·exact h
theorem dO(hi:i<j):((τ.fE j).t i).st≠.qC:=by
 show(if i<j∧(τ.t i).st=.qC then{τ.t i with st:=.done} else τ.t i).st≠_;by_cases c:(τ.t i).st=.qC
 ·exact qX (A3 ⟨hi,c⟩) (λh=>nomatch h)
 ·exact qX (D9 (λh=>c h.2)) (c)
noncomputable def TT.settle(τ:TT)(n:Nat):TT:=(τ.sA n).fE n
end
section
variable{Z:Ctx}{n:Nat}{H:St}{P:xZ}{τ:TT}
theorem Gy(x:Pb):U5 (.str x.code) (.str 140)=some false:=by cases x<;>rfl
theorem Xg(T:Z.xR)(I:zW P τ eQ nl H)(q:∀H',zW P (τ.fE P.n) eQ nl H'->qV MT H H'->Q (.bool (τ.G5 P.n)) H'):qB Z (n+1) 349 [.ref P.tk] H Q qM:=by
 refine wV I.tk λt lo A B _=>?_;refine uI T (Zv T) rfl<|jW .R3<|kR (λj m H'=>zW P (τ.fE j) eQ nl H'∧qV MT H H'∧m 164=some (.bool (τ.G5 j))) (.R4 (.N9 rfl) A B.tasks) I.C.tl (λj m H' _ h=>h.1.C.tl) ?_ ⟨by rw[i7];exact I,.refl,rfl⟩ ?_
 ·intro j v m H' K e D;refine wH D λc g o=>?_;intro u _;refine qK (Sc e) λp E=>?_;subst E;refine qY (c.task j p) λf r Wk=>?_;rw[i8] at Wk;refine wH (c.C.sub j p) λ_ _ s=>?_;refine vA (.vY (.val (.R6 (.R4 (.N9 rfl) r Wk.state) .R5 (Gy _)) rfl)) ?_;by_cases d:(τ.t j).st=.qC
  ·refine jV<|dE<|nF (.val (.R6 (.R4 (.N9 rfl) r Wk.state) .R5 (qX d rfl)) rfl)<|pJ<|xM<|kU<|Zs (λ_=>none) (.R4 (.N9 rfl) r Wk.wA) s (by decide) (λv F=>nomatch F) λl w=>wO λO i=>qZ true ((gO (qT (qW ..)) (qW ..)).trans (uN _)) (qZ true rfl (fI<|dA<|fI ?_));have y:=g.qQ (C:=22) (f:=([]:List AV)) (.inr (g.fr _ w));have G:=y.qQ (C:=23) (f:=([]:List AV)) (.inr (y.fr _ i));have J:=c.keep (qV.refl.qQ (C:=22) (f:=([]:List AV)) (.inr w));have z:=J.keep (qV.refl.qQ (C:=23) (f:=([]:List AV)) (.inr i));refine qY (z.task j p) λL k a=>?_;rw[i8] at a;refine wY .R5 (.N9 rfl) k<|jW .R3<|qP<|qP (u _ _ ⟨?_,G.zR,?_⟩)
   ·refine qX (C6 (i9 d)) ?_;refine z.jX (x:={τ.t j with st:=.done}) (f':=up L 86 (.str 29)) p k ?_ (.inr rfl);refine qY a.Uh λb M _=>?_;exact⟨a.number,rfl,a.wake,a.answer,a.raised,qZ b M (λh=>absurd rfl h),a.inside,a.wL,a.wD,a.xK,a.wA⟩
   ·rw[Sd,A3 d];rfl
  ·refine wW (.vY (.val (.R6 (.R4 (.N9 rfl) r Wk.state) .R5 ((rB .qC rfl).trans (cgA some (dcf d)))) rfl))<|qP<|qP (u _ _ ⟨qX (C6 (Se d)) c,g,?_⟩);rw[Sd,D9 d];exact o
 ·intro m H' N;refine wH N λc g o=>?_;rw[S6,B9] at c o;exact wB (.N9 o) (q _ c g)
theorem zP7(T:Z.xR)(I:zW P τ eQ nl H)(q:∀l H',qV MN H H'->H'.lst 26 l=some []->Q (.ref l) H'):qB Z (n+1) 366 [.ref P.tk] H Q qM:=by
 refine wV I.tk λt lo p r _=>qY I.C.lm λg x k=>?_;refine uI T (dH T) rfl<|xF<|iE (.val (.R4 (.R4 (.N9 rfl) p r.bC) x k) rfl)<|wO λl s=>?_;have m:qV MN H (H.qQ 26 l []):=qV.refl.qQ (.inr s);refine kR (λj d H'=>qV MN H H'∧H'.lst 26 l=some []∧d 71=some (.ref l)) (.R4 (.N9 rfl) (m.yB p) r.tasks) (m.zS I.C.tl) (λj d H' _ h=>h.1.zS I.C.tl) ?_ ⟨m,qW ..,rfl⟩ ?_
 ·intro j v d H' K e y;refine wH y λc a i=>?_;intro z _;refine qK (Sc e) λu A=>?_;subst A;refine qY (I.task j u) λf B Wk=>wH (I.C.sub j u) λ_ _ o=>?_;refine vV<|Dz<|rd (.N9 i) ⟨l,rfl,[],a,Zs (λ_=>none) (.R4 (.N9 rfl) (c.yB B) Wk.wA) (c.zS o) (by decide) (λv C=>nomatch C) λb w=>qZ ([]) (qT a) (qZ b rfl (Eh ([]) (qW ..) rfl (w.sB a) (by decide) (qP (z _ _ ⟨?_,qW ..,i⟩))))⟩;exact(c.qQ (.inr (c.fr _ w))).qQ (.inr s)
 ·intro d H' D;refine wH D λc a i=>?_;exact wB (.N9 i) (q _ _ c a)
theorem Xf(T:Z.xR)(I:zW P τ eQ nl H)(q:∀H',qV MN H H'->Q (.bool false) H'):qB Z (n+2) 378 [.ref P.tk] H Q qM:=
 uI T (mF T) rfl<|jW .R3<|Ur<|qE<|(Wn.cons (.N9 rfl) .nil) _<|zP7 T I λl c b a=>qZ l rfl (qZ ([]) a ⟨a,wB (.N9 rfl) (q _ b)⟩)
theorem Gj(T:Z.xR)(I:zW P τ eQ nl H)(W:τ.Wf P)(S:∀i,P.ins i=0)(U:nl<800)(q:∀H',zW P (τ.settle P.n) eQ (nl+τ.Zt P.n) H'->qV MT H H'->Q .none H'):qB Z (n+5) 385 [.ref P.tk] H Q qM:=by
 refine uI T (aA T) rfl<|Zn
  (λk l H'=>l=(qV3 [(false,151)] [.ref P.tk] λ_=>none)∧k≤2∧∃a b,zW P a eQ b H'∧qV MT H H'∧a.Wf P∧a.settle P.n=τ.settle P.n∧b+a.Zt P.n=nl+τ.Zt P.n∧(k≤1->∀i,i<P.n->(a.t i).xX=false)∧(k=0->∀i,i<P.n->(a.t i).st≠.qC))
  (λk l H'=>l=(qV3 [(false,151)] [.ref P.tk] λ_=>none)∧k≤2∧0<k∧∃a b,zW P a eQ b H'∧qV MT H H'∧a.Wf P∧a.settle P.n=τ.settle P.n∧b+a.Zt P.n=nl+τ.Zt P.n∧(∀i,i<P.n->(a.t i).xX=false)∧(k=1->∀i,i<P.n->(a.t i).st≠.qC))
  ?_ ?_ (k:=2) (oQ rfl (Nat.le_refl _) (K5 (τ) nl I .refl W rfl rfl (λh=>absurd h (by decide)) λh=>nomatch h))
 ·intro k l H' K G;refine wH G λy z m=>?_;clear G;subst y;refine wK7 m λa b v o p r f w A=>?_;clear m;intro J V;have u:b<900:=by have:=Me τ P.n;have:=I.C.small;lia
  refine c9<|mS<|xM<|qE<|(Wn.cons (.N9 rfl) .nil) _<|Uc T v p S u λH2 B C=>qZ _ rfl ?_;cases D:a.P9 P.n with
  |true=>
   refine fI (J _ (wK2 rfl z ?_ (K5 _ _ B (o.trans C) (Wf.sA p _) ?_ ?_ (λi c=>cJ c) ?_)))
   ·refine qQ0 (Nat.eq_zero_or_pos k) (λe=>?_) λe=>?_
    ·have:=zR9 (w (e▸Nat.zero_le 1));rw[D] at this;cases this
    ·exact e
   ·rw[<-r];unfold TT.settle;rw[dI λi c=>cJ c]
   ·rw[Ze λi c=>cJ c,Nat.add_zero];exact f
   ·intro e;have:=zR9 (w (by lia));rw[D] at this;cases this
  |false=>
   have g:=wU7 D;rw[dI g,Ze g,Nat.add_zero] at B;refine mR<|mS<|xM<|qE<|(Wn.cons (.N9 rfl) .nil) _<|Xg T B λH3 x L=>qZ _ rfl ?_;cases M:a.G5 P.n with
   |true=>
    have j:∀i,i<P.n->((a.fE P.n).t i).xX=false:=λi c=>Yr (g i c);refine fI (J _ (wK2 rfl z ?_ (K5 _ _ x ((o.trans C).trans L) (Wf.fE p _) ?_ ?_ j (λ_ i c=>dO c))))
    ·refine qQ0 (Nat.eq_zero_or_pos k) (λe=>?_) λe=>?_
     ·have:=wV3 (A e);rw[M] at this;cases this
     ·exact e
    ·rw[<-r];unfold TT.settle;rw[dI j,dI g,iA λi c=>dO c]
    ·refine qX (Ze j) ?_;rw[Ze g] at f;exact f
   |false=>
    have N:=wL4 M;rw[iA N] at x;refine mR<|mS<|xM<|qE<|(Wn.cons (.N9 rfl) .nil) _<|Xf T x λH4 O=>qZ _ rfl (mR<|Ut<|V _<|qP (q _ ?_ (((o.trans C).trans L).trans (O.lE))));have X:=x.keep (O.lE);rw[Ze g,Nat.add_zero] at f;refine qX (C6 (f)) (qX (C6 (r)) ?_);unfold TT.settle;refine qX (dI g) (qX (iA N) ?_);exact X
 ·intro k l H' K R;refine jL R λy z Y m=>?_;clear R;subst y;refine wK7 m λa b v o p r f w A=>?_;clear m;intro kn _;refine wV v.tk λt lo ht d E=>zH d.settled λs F=>?_;refine bT (.N9 rfl) ht F .R3 rfl<|qP (kn (k-1) _ _ (by lia) ⟨rfl,by lia,a,b,?_,o.zR,p,r,f,λ_=>w,λe=>A (by lia)⟩);exact v.s8 (f':=up t 150 (.int (s+1))) ⟨d.tasks,d.bB,d.bC,d.serve,d.choose,d.iB,d.Mc,yU (s+1) rfl,d.nn⟩ (Int.le_refl _) E
end
noncomputable def M3(k:Nat):Nat:=if k=1 then 2 else if k=2 then 3 else 1
noncomputable def sI(rl:Nat->Int)(num:Nat->Int)(k:Nat):Bool:=if rl k=0 then false else if rl k=3 then decide (num k>1) else decide (num (M3 k)<rl k)
noncomputable def jT(P:xZ)(τ:TT)(k:Nat):Bool:=sI P.rl (λk=>((τ.gJ k).length:Int)) k
noncomputable def TT.opens(P:xZ)(τ:TT)(k:Nat):Bool:=!(τ.gJ k).isEmpty&&jT P τ k
noncomputable def TT.next(P:xZ)(τ:TT):Option Ask:=(jS.find? (τ.opens P)).bind λk=>(τ.gJ k).head?
theorem Ys(h:k∈jS):k=1∨k=2∨k=3:=by
 refine qQ0 (E3.mp h) (λh=>?_) λh=>?_
 ·exact .inl h
 ·refine qQ0 (E3.mp h) (λh=>?_) λh=>?_
  ·exact .inr (.inl h)
  ·refine qQ0 (E3.mp h) (λh=>?_) λh=>?_
   ·exact .inr (.inr h)
   ·cases h
theorem Sa{k:Nat}(h:k∈jS):zE Ka k=some (.str (M3 k))∧M3 k∈jS:=by
 rcases Ys h with rfl|rfl|rfl<;>exact⟨rfl,by decide⟩
noncomputable def eW(tg:Nat):Ss:=.cons (.R7 (.N9 18) (.qA 43 (.N9 82) (.N9 41))) (.cons (.ite (.val (.R6 .uO (.N9 18) (.R3 (.int 0)))) (.cons (.ret (.R3 (.bool false))) .nil) .nil) (.cons (.ite (.val (.R6 .uO (.N9 18) (.R3 (.int 3)))) (.cons (.ret (.R6 .gt (.qA tg (.N9 145) (.N9 41)) (.R3 (.int 1)))) .nil) .nil) (.cons (.ret (.R6 .lt (.qA tg (.N9 145) (.rQ (.N9 41))) (.N9 18))) .nil)))
theorem Gv{tg t:Nat}{K:AV->St->Prop}(h:xB (λ_=>True) (λx c H'=>oS (.one t) x H' λm'=>T9 (m' t) λb=>T9 (sr b) λk=>wE Z n F R v m' (λy a=>c (some (k,y)) a) H') [.str 1,.str 2,.str 3] [] (λacc H'=>∀l,qD H' l->K (.ref l) (H'.xV tg l (vC acc))) H):wE Z n F R (.eH tg t v (.R3 (.str 6))) m K H:=⟨rfl,by decide,h⟩
theorem Si{tg:Nat}{Q:Fl->M->St->Prop}{m:M}{rules h:Addr}{l d:List (Nat×AV)}{rl num:Nat->Int}{k:Nat}(p:H.sd 43 rules=some l)(o:∀k∈jS,zE l k=some (.int (rl k)))(f:H.sd tg h=some d)(g:∀k∈jS,zE d k=some (.int (num k)))(b:k∈jS)
  (j:m 82=some (.ref rules)) (e:m 41=some (.str k)) (i:m 145=some (.ref h)) (q:∀m',Q (.ret (.bool (sI rl num k))) m' H):O6 Z n F R (eW tg) m Q H:=by
 refine jW (.qA (.N9 j) (.N9 e) p (o k b)) ?_;by_cases a:rl k=0
 ·refine wI (.val (.R6 (.N9 rfl) .R3 (cgA some (dct a))) rfl)<|wB .R3 ?_;have:=q (up m 18 (.int (rl k)));unfold sI at this;rw[A3 a] at this;exact this
 ·refine wW (.val (.R6 (.N9 rfl) .R3 (cgA some (dcf a))) rfl) ?_;by_cases c:rl k=3
  ·refine wI (.val (.R6 (.N9 rfl) .R3 (cgA some (dct c))) rfl)<|wB (.R6 (.qA (.N9 i) (.N9 e) f (g k b)) .R3 rfl) ?_;have:=q (up m 18 (.int (rl k)));unfold sI at this;rw[D9 a,A3 c] at this;exact this
  ·refine wW (.val (.R6 (.N9 rfl) .R3 (cgA some (dcf c))) rfl)<|wB (.R6 (.qA (.N9 i) (.rQ (.N9 e) (Sa b).1) f (g _ (Sa b).2)) (.N9 rfl) rfl) ?_;have:=q (up m 18 (.int (rl k)));unfold sI at this;rw[D9 a,D9 c] at this;exact this
theorem Yt(T:Z.xR)(b:H.sd 43 rules=some l)(f:∀k∈jS,zE l k=some (.int (rl k)))(c:H.sd 44 nms=some d)(a:∀k∈jS,zE d k=some (.int (num k)))(e:k∈jS)(q:Q (.bool (sI rl num k)) H):qB Z (n+1) 581 [.ref rules,.str k,.ref nms] H Q qM:=
 uI T (iQ T) rfl (show O6 _ _ _ _ (eW 44) _ _ _ from Si b f c a e rfl rfl rfl λ_=>q)
theorem Yb(T:Z.xR)(b:H.sd 43 rules=some l)(f:∀k∈jS,zE l k=some (.int (rl k)))(c:H.sd 45 nms=some d)(a:∀k∈jS,zE d k=some (.int (num k)))(e:k∈jS)(q:Q (.bool (sI rl num k)) H):qB Z (n+1) 581 [.ref rules,.str k,.ref nms] H Q qM:=
 uI T (iZ T) rfl (show O6 _ _ _ _ (eW 45) _ _ _ from Si b f c a e rfl rfl rfl λ_=>q)
noncomputable def iY(f:Nat->Int):List (Nat×AV):=jS.map λk=>(k,.int (f k))
theorem mT(h:k∈jS):zE (iY f) k=some (.int (f k)):=by
 rcases Ys h with rfl|rfl|rfl<;>rfl
theorem Ue{j:Nat}{v:AV}(e:(jS.map AV.str)[j]?=some v):∃k,v=.str k∧k∈jS∧jS[j]?=some k:=by
 rw[D4] at e;refine qY (B8.mp e) λk a b=>?_;subst b;exact zU k rfl (qJ0 a) a
theorem cV(T:Z.xR)(I:zW P τ eQ nl H)(q:∀d H',qV MN H H'->H'.sd 44 d=some (iY λk=>((τ.gJ k).length:Int))->Q (.ref d) H'):qB Z (n+2) 593 [.ref P.th] H Q qM:=by
 refine zX I.th λg r s _=>?_;refine f9 T (Zl T) rfl λc t=>jF ?_;have i:qV MN H (H.qU 90 c (some (.ref P.th))):=qV.refl.qU t;refine Gv<|lM (λj b H'=>qV MN (H.qU 90 c (some (.ref P.th))) H'∧b=(jS.take j).map λk=>(k,AV.int ((τ.gJ k).length:Int))) (λ_ _ _ _ _=>trivial) ?_ ?_ ⟨.refl,rfl⟩
 ·intro j v b H' K e m;refine qK m λa h=>?_;clear m;subst h;intro w;refine zX (Ue e) λk h C x=>?_;subst h;have y:=(I.keep (i.lE)).keep (a.lE);refine⟨_,A3 rfl,k,rfl,qE<|qR<|rd (.R4 (.qG rfl (a.qG _ _ _ (qS ..))) ((i.trans a).yB r) s.wD)<|qR<|Zr (Wn.cons (.N9 (A3 rfl)) (.cons .R3 .nil)) (Nat.le_of_ble_eq_true rfl) λu o=>vU .nil ?_⟩;have z:=a.zQ (f:=[AV.str k,.none]) (a.fr _ o);refine zF2 T (y.keep (qV.refl.zQ (f:=[AV.str k,.none]) o)) (zN ..) λD A=>w (some (k,_)) _ ⟨z.trans A,?_⟩;exact qX qW9 (qX x (qX C8 rfl))
 ·intro b H' p;refine qK p λa h=>?_;clear p;subst h;intro l B;exact q l _ ((i.trans a).xV (.inr ((i.trans a).fr _ B))) (xA ..)
section
variable{P:xZ}{τ:TT}
noncomputable def TT.met(τ:TT)(a:Ask):TT:=(τ.drop a.zZ).xH a.zZ ⟨.kS,none,(τ.t a.zZ).fS,(τ.t a.zZ).ab⟩
noncomputable def TT.served(τ:TT)(a:Ask):TT:={(τ.drop a.zZ).xH a.zZ ⟨.ready,none,.called,(τ.t a.zZ).ab⟩ with told:=τ.told++[a.zZ]}
noncomputable def TT.zJ(P:xZ):Nat->TT->TT
 |0,b=>b
 |n+1,b=>match b.next P with
  |none=>b
  |some a=>TT.zJ P n (b.served a)
theorem Ua(h:a∈τ.gJ k):a∈τ.asks∧a.name=k:=⟨(T6.mp h).1,of_decide_eq_true (T6.mp h).2⟩
theorem vO(h:τ.next P=some a):a∈τ.asks:=by
 refine qY (A7.mp h) λk _ e=>?_;exact(Ua (List.mem_of_mem_head? e)).1
theorem Wf.served(W:τ.Wf P)(k:a∈τ.asks):(τ.served a).Wf P where
 once:=λb d c j e=>W.once b (T6.mp d).1 c (T6.mp j).1 e
 call:=λi f=>by
  show(if i=a.zZ then _ else τ.t i).st=_↔∃b∈τ.asks.filter (λb=>b.zZ≠a.zZ),b.zZ=i;by_cases e:i=a.zZ
  ·refine qX (A3 e) ?_;refine⟨(λh=>nomatch h),λg=>qY g λb d q=>?_⟩;have:=(T6.mp d).2;rw[q,e] at this;simp at this
  ·rw[D9 e,W.call i f];exact⟨λg=>qY g λb d q=>qZ b (T6.mpr ⟨d,dct (q▸e)⟩) q,λg=>qY g λb d q=>qZ b ((T6.mp d).1) q⟩
 name:=λb d=>W.name b (T6.mp d).1
 len:=Nat.le_trans (E9 ..) W.len
 woke:=λi f=>by
  show(if i=a.zZ then _ else τ.t i).st≠_->(if i=a.zZ then _ else τ.t i).st≠_->(if i=a.zZ then _ else τ.t i).wake=_;by_cases e:i=a.zZ
  ·exact qX (A3 e) (λ_ _=>rfl)
  ·exact qX (D9 e) (W.woke i f)
 meet:=λi f=>by
  show(if i=a.zZ then _ else τ.t i).st≠_;by_cases e:i=a.zZ
  ·exact qX (A3 e) (λh=>nomatch h)
  ·exact qX (D9 e) (W.meet i f)
 nodup:=W.nodup.sublist (qJ8.map _)
theorem fQ(c:a∈τ.asks):(τ.served a).asks.length<τ.asks.length:=by
 refine Nat.lt_of_le_of_ne (E9 ..) λe=>?_;have:=(qQ6.mp ((qJ8 (p:=λb:Ask=>decide (b.zZ≠a.zZ))).eq_of_length e)) a c;simp at this
theorem o4(h:τ.asks=[]):τ.next P=none:=by
 have:jS.find? (τ.opens P)=none:=by
  rw[qM0];intro k _ e;have a:τ.gJ k=[]:=by unfold TT.gJ;exact qX h rfl
  unfold TT.opens at e;rw[a] at e;first|exact uZ e|exact Bool.noConfusion e|exact nomatch e|(obtain rfl:=B5 e)|exact(e).elim
 unfold TT.next;exact qX this rfl
theorem xQ(h:τ.next P=none):τ.zJ P k=τ:=by
 cases k with
 |zero=>rfl
 |succ k=>exact cgA (λo=>match o with|none=>τ|some a=>TT.zJ P k (τ.served a)) h
theorem xI(h:τ.next P=some a):τ.zJ P (k+1)=(τ.served a).zJ P k:=cgA (λo=>match o with|none=>τ|some a=>TT.zJ P k (τ.served a)) h
theorem uE:∀{k:Nat}{τ:TT},τ.asks.length≤k->(τ.zJ P k).next P=none
 |0,τ,h=>o4 (qQ7 (Nat.le_zero.mp h))
 |k+1,τ,h=>by
  cases e:τ.next P with
  |none=>rw[xQ e];exact e
  |some a=>rw[xI e];exact uE (Nat.le_of_lt_succ (Nat.lt_of_lt_of_le (fQ (vO e)) h))
theorem Wf.zJ:∀{k:Nat}{τ:TT},τ.Wf P->(τ.zJ P k).Wf P
 |0,_,W=>W
 |k+1,τ,W=>by
  cases e:τ.next P with
  |none=>rw[xQ e];exact W
  |some a=>rw[xI e];exact Wf.zJ (Wf.served W (vO e))
end
section
variable{Z:Ctx}{F:Fm}{R:Value->St->Prop}{H:St}{K:AV->St->Prop}
theorem o8(e:Rd Z n F R m H f (.ref a))(h:wEs Z n F R es m (λvs c=>qB Z n a vs c K R) H):wE Z n F R (.call f es) m K H:=by
 refine e (λv c=>wEs Z n F R es m (λvs d=>T9 (rf v) λb=>qB Z n b vs d K R) c) ?_;show wEs Z n F R es m (λvs d=>T9 (some a) λb=>qB Z n b vs d K R) H;simpa using h
end
structure mB(P:xZ)(io:Addr)(H:St):Prop where
 fn:∃c1 c2,H.fn 222 io=some [(90,c1),(82,c2)]∧H.qG 90 c1=some (some (.ref P.th))∧H.qG 82 c2=some (some (.ref P.rules))
theorem mB.keep{M:mM}{d:Addr}{H':St}(h:mB P d H)(k:qV M H H'):mB P d H':=wV h.fn λe f a b c=>⟨e,f,k.fn _ _ _ a,k.qG _ _ _ b,k.qG _ _ _ c⟩
theorem Dw(T:Z.xR)(I:zW P τ eQ nl H)(O:mB P io H)(f:H.tup u=some [.str k,.none])(a:k∈jS)(q:∀H',qV MN H H'->Q (.bool (jT P τ k)) H'):qB Z (n+3) io [.ref u] H Q qM:=by
 refine wV O.fn λm o g b c=>qY I.C.rules λl h i=>?_;refine sH T.hh T.ok (Uu T) g rfl rfl<|jF<|qE<|qR<|rd (.qG rfl c)<|qR<|rd (.xS (.N9 rfl) .R3 f rfl)<|qR<|qE<|vU (.cons (.qG rfl b) .nil)<|cV T I λd p e j=>vU .nil ?_;exact Yt T (e.Ps h) i j (λk a=>mT a) a (q _ e)
theorem Dx{α:Type}{p:α->Bool}:∀{l:List α}{j:Nat}{x:α},l[j]?=some x->(∀y∈l.take j,p y=false)->p x=true->l.find? p=some x:=by
 intro l;induction l with
 |nil=>exactλe=>nomatch e
 |cons y r b=>
  intro j x e a h;cases j with
  |zero=>cases e;rw[qW7,h]
  |succ j=>
  refine qX (qW7) (qX (a y (qX qA6 T3)) ?_);exact b e (λz c=>a z (qX qA6 (S9 _ c))) h
theorem o9(I:zW P τ eQ nl H)(d:a∈τ.asks):∀b∈(τ.drop a.zZ).asks,b.c≠a.c:=λb f e=>by
 refine qK (T6.mp f) λg c=>?_;rw[I.Sh g d e] at c;simp at c
inductive NI(P:xZ)(τ:TT)(H:St)(io:Addr)(j:Nat)(m':M)(H':St):Prop where
 |mk (k:qV MN H H') (m1:m' 90=some (.ref P.th)) (m2:m' 139=some (.ref io)) (hn:∀k∈jS.take j,τ.opens P k=false)
theorem Xh(T:Z.xR)(I:zW P τ eQ nl H)(W:τ.Wf P){z:Addr}(O:mB P z H)(q0:τ.next P=none->∀H',zW P τ eQ nl H'->qV MS H H'->Q .none H')
  (q1:∀a,τ.next P=some a->∀H' f,zW P (τ.met a) eQ nl H'->qV MS H H'->H'.obj 138 a.c=some f->f 102=some (.ref (P.ts a.zZ))->Q (.ref a.c) H'):qB Z (n+4) 558 [.ref P.th,.ref z] H Q qM:=by
 refine zX I.th λg A B _=>?_;refine uI T (Zk T) rfl<|kR (NI P τ H z) (.R4 (.N9 rfl) A B.entries) I.C.en (λj X H' _ h=>h.casesOn λk _ _ _=>k.zS I.C.en) ?_ ⟨.refl,rfl,rfl,λk r=>nomatch r⟩ ?_
 ·intro j v X H' K e y1;obtain⟨m,q,d,C⟩:=y1;intro kn kr;refine zX (Ue e) λk F r Y=>?_;subst F;have G:jS.take (j+1)=jS.take j++[k]:=qX qW9 (qX Y rfl);have I1:=I.keep (m.lE);have J:=m.yB A;have no:τ.opens P k=false->∀d H2,qV MN H H2->d 90=some (.ref P.th)->d 139=some (.ref z)->K .next d H2:=λD d H2 s a b=>kn _ _ ⟨s,a,b,λx hx=>by
   replace hx:=G▸hx;rcases A4.mp hx with hx|hx
   ·exact C x hx
   ·exact qX (B7.mp hx) D⟩
  refine Ur<|qE<|vU (.cons (.R4 (.N9 q) J B.wD) (.cons (.N9 rfl) .nil))<|zI9 T I1 λl H2 s h0 h1=>?_;cases i:τ.gJ k with
  |nil=>exact qZ l rfl (qZ ([]) (h0 i) ⟨h0 i,no (by unfold TT.opens;exact qX i rfl) _ _ (m.trans s) q d⟩)
  |cons a as=>
   refine qY (h1 (qX i (λh=>nomatch h))) λkt L ht=>?_;refine qZ l rfl (qZ _ L ⟨L,mR ?_⟩);have I2:=I1.keep (s.lE);have u:=m.trans s;refine jV<|xM<|o8 (.N9 d)<|vU (.cons (.N9 rfl) .nil)<|Dw T I2 (O.keep u) ht r λH3 E=>qZ _ rfl ?_;have I3:=I2.keep (E.lE);have o:=u.trans E;cases D:jT P τ k with
   |false=>exact mR ⟨E.zS L,no (by unfold TT.opens;rw[D,Bool.and_false]) _ _ o q d⟩
   |true=>
    have w:=(Ua (i▸T3)).1;have M:τ.next P=some a:=by
     have:jS.find? (τ.opens P)=some k:=Dx Y C (by unfold TT.opens;exact qX i (qX D rfl));unfold TT.next;refine qX this ?_;show(τ.gJ k).head?=_;exact qX i rfl
    refine wH (I.asks a w) λN _ F=>qY F λf hf V=>?_;refine fI<|gX (.cons (.R4 (.N9 q) (o.yB A) B.wD) (.cons (.N9 rfl) .nil))<|zU2 T I3 (E.tup _ _ ht) i λH4 k4=>?_;have I4:=I3.keep (k4.lE);have p:=o.trans k4;refine zA (.cons (.R4 (.N9 q) (p.yB A) B.wD) (.cons (.N9 rfl) .nil))<|Sm T I4 w (W.once a w) (Nat.lt_of_le_of_lt W.len (by decide)) λH5 I5 k5=>?_;have R:=k5.yB (p.yB hf);have I6:=I5.uH (c:=a.c) (f':=up f 86 (.str 121)) λb S e=>absurd e (o9 I w b S);refine qY (I6.task _ N) λt y Wk=>?_;refine wY .R5 (.N9 rfl) R<|wY .R5 (.R4 (.N9 rfl) (qJ ..) V.caller) y<|wY .R3 (.R4 (.N9 rfl) (zF (qJ ..)) V.caller) (qJ ..)<|wB (.N9 rfl)<|kr _ _ _ (q1 a M _ (up f 86 (.str 121)) ?_ ?_ (zF (zF (qJ ..))) V.caller)
    ·rw[xE];refine qY Wk.Uh λb S U=>?_;exact I6.jX (x:=⟨.kS,none,(τ.t a.zZ).fS,(τ.t a.zZ).ab⟩) (f':=up (up t 86 (.str 143)) 57 .none) N y ⟨Wk.number,rfl,rfl,Wk.answer,Wk.raised,qZ b S (λ_=>U (λe=>by have:=(W.call _ N).mpr (qZ a w rfl);rw[show(τ.t a.zZ).st=.done from e] at this;cases this)),Wk.inside,Wk.wL,Wk.wD,Wk.xK,Wk.wA⟩ (.inr rfl)
    ·exact((((p.lE).trans (k5.lE)).zR).zR).zR
 ·intro X H' y2;obtain⟨m,q,d,C⟩:=y2;refine wB .R3 (q0 ?_ _ (I.keep (m.lE)) (m.lE));have:jS.find? (τ.opens P)=none:=qM0.mpr λk r e=>by
   have:=C k r;rw[e] at this;first|exact uZ this|exact Bool.noConfusion this|exact nomatch this|(obtain rfl:=B5 this)|exact(this).elim
  unfold TT.next;exact qX this rfl
section
variable{Z:Ctx}{H:St}{P:xZ}{τ:TT}
theorem Ma(h:H.qG t a=some f)(b:t≠t'∨a≠a'):(H.qU t' a' g).qG t a=some f:=by
 rw[Ms,D9]
 ·exact h
 ·rintro⟨c,d⟩;rcases b with q|q
  ·exact q c
  ·exact q d
theorem pM{H:St}{t t':Nat}{a a':Addr}{f g:Option AV}(h:H.qG t a=some f)(e:Nat.beq t t'=false:=by rfl):(H.qU t' a' g).qG t a=some f:=Ma h (.inl (Nat.ne_of_beq_eq_false e))
def So(P:xZ)(τ:TT)(c:Int)(d:Nat)(v:AV)(H:St):Prop:=(τ.next P=none∧v=.none∧zW P τ c d H)∨∃a f,τ.next P=some a∧v=.ref a.c∧zW P (τ.met a) c d H∧H.obj 138 a.c=some f∧f 102=some (.ref (P.ts a.zZ))∧a.zZ<P.n∧∀b∈(τ.drop a.zZ).asks,b.c≠a.c
theorem qI6(T:Z.xR)(I:zW P τ eQ nl H)(W:τ.Wf P){g:Addr}(O:mB P g H){h i:X}{r:Ss}(j:Rd Z (n+4) F qM m H h (.ref P.th))(k:Rd Z (n+4) F qM m H i (.ref g))(q:∀v b,So P τ eQ nl v b->qV MS H b->O6 Z (n+4) F qM r (up m 26 v) Q b):
  O6 Z (n+4) F qM (.cons (.R7 (.N9 26) (.call (.R5 219 (.ref 558)) (.cons h (.cons i .nil)))) r) m Q H:=
 gX (.cons j (.cons k .nil))<|Xh T I W O (λe b c d=>q _ _ (.inl ⟨e,rfl,c⟩) d) λa e b f c d l o=>q _ _ (.inr (K5 a f e rfl c l o ((I.asks a (vO e)).1) (o9 I (vO e)))) d
theorem Q3(a:Ask):({τ.met a with told:=τ.told++[a.zZ]}:TT).xH a.zZ ⟨.ready,none,.called,(τ.t a.zZ).ab⟩=τ.served a:=by
 refine uL ?_ rfl;funext j
 show(if j=a.zZ then _ else if j=a.zZ then _ else τ.t j)=if j=a.zZ then _ else τ.t j
 by_cases e:j=a.zZ
 ·exact qX (A3 e) (qX (A3 e) rfl)
 ·exact qX (D9 e) (qX (D9 e) (qX (D9 e) rfl))
end
section
variable{Z:Ctx}{H:St}{P:xZ}{τ:TT}
theorem cU(T:Z.xR)(I:zW P τ eQ nl H){i:Nat}(hi:i<P.n)(b:(τ.t i).st≠.done){c:Addr}{f:M}(e:H.obj 138 c=some f)(h:f 102=some (.ref (P.ts i)))(d:∀a∈τ.asks,a.c≠c)(g:∀a∈τ.asks,a.zZ≠i)
  (q:∀H',zW P (τ.xH i ⟨.ready,none,.called,(τ.t i).ab⟩) eQ nl H'->qV MS H H'->Q .none H'):qB Z (n+3) 565 [.ref c,.none] H Q qM:=
 uI T (Xk T) rfl<|zA (.cons (.N9 rfl) (.cons (.N9 rfl) .nil))<|b9 T I hi b e h d g λH' j k=>qP (q H' j k)
inductive WI1(P:xZ)(τ:TT)(eQ:Int)(nl:Nat)(H:St)(io:Addr)(k:Nat)(m':M)(H':St):Prop where
 |mk (τ':TT) (v:AV) (hd:So P τ' eQ nl v H') (hv:m' 26=some v) (m3:m' 222=some (.ref io)) (m4:m' 54=some (.ref P.told)) (k2:qV MS H H') (W':τ'.Wf P) (hl:τ'.asks.length≤k) (hs:τ'.zJ P k=τ.zJ P 4) (hN:τ'.told.length+τ'.asks.length<1000)
inductive WI2(P:xZ)(τ:TT)(eQ:Int)(nl:Nat)(H:St)(io:Addr)(k:Nat)(m':M)(H':St):Prop where
 |mk (τ':TT) (a:Ask) (e:τ'.next P=some a) (I:zW P (τ'.met a) eQ nl H') (hf:∃f,H'.obj 138 a.c=some f∧f 102=some (.ref (P.ts a.zZ))∧a.zZ<P.n∧∀b∈(τ'.drop a.zZ).asks,b.c≠a.c) (hv:m' 26=some (.ref a.c)) (m3:m' 222=some (.ref io)) (m4:m' 54=some (.ref P.told)) (k2:qV MS H H') (W':τ'.Wf P) (hl:τ'.asks.length≤k) (hs:τ'.zJ P k=τ.zJ P 4) (hN:τ'.told.length+τ'.asks.length<1000)
theorem Q4(T:Z.xR)(I:zW P τ eQ nl H)(W:τ.Wf P)(hN:τ.told.length+τ.asks.length<1000){F:Fm}{Q:Fl->M->St->Prop}{u R:Addr}(O:mB P u H)(S:H.qG 90 R=some (some (.ref P.th)))(L:F 90=some R)(N:m 222=some (.ref u))(m2:m 54=some (.ref P.told))(q:∀m' H',zW P (τ.zJ P 4) eQ nl H'->qV MS H H'->Q .next m' H'):O6 Z (n+4) F qM uG m Q H:=by
 refine qI6 T I W O (.qG L S) (.N9 N) λv H1 p k1=>Zn
  (WI1 P τ eQ nl H u) (WI2 P τ eQ nl H u)
  ?_ ?_ (k:=4) ⟨τ,v,p,rfl,N,m2,k1,W,W.len,rfl,hN⟩
 ·intro k m' H' K y1;obtain⟨c,v,p,o,w,x,y,z,D,A,r⟩:=y1;intro kt kf;rcases p with U|V
  ·refine wH U λe E g=>?_;clear U;subst E;refine(jR.val (.R6 (.N9 o) .R3 rfl) rfl:jR Z (n+4) F qM m' H' _ false) _ (kf _ (qP (q _ _ ?_ y)));exact qX (C6 (A)) (qX (xQ e) (g))
  ·refine Jv V λa f e E g B=>?_;clear V;subst E;exact(jR.val (.R6 (.N9 o) .R3 rfl) rfl:jR Z (n+4) F qM m' H' _ true) _ (kt _ ⟨c,a,e,g,⟨f,B⟩,o,w,x,y,z,D,A,r⟩)
 ·intro k m' H' K y4;obtain⟨c,a,e,g,⟨f,B,s,X,G⟩,o,w,x,y,z,D,A,r⟩:=y4;intro kn _;have d:=vO e;obtain⟨k,rfl⟩:∃j,k=j+1:=by
   cases k with
   |zero=>rw[qQ7 (Nat.le_zero.mp D)] at d;first|exact uZ d|exact Bool.noConfusion d|exact nomatch d|(obtain rfl:=B5 d)|exact(d).elim
   |succ j=>exact⟨j,rfl⟩
  have aa:=fQ d;refine qY (g.task _ X) λt ht Wk=>?_;refine mN (.N9 x) g.told (.bin (.R4 (.R4 (.N9 o) B s) ht Wk.number) .R3 rfl) (by rw[S6];show c.told.length<_;lia) ?_;have el:(c.told.map λ(i:Nat)=>AV.int (i:Int))++[AV.int (((a.zZ:Int)+1)-1)]=(c.told++[a.zZ]).map λ(i:Nat)=>AV.int (i:Int):=by
   rw[C8,Int.add_sub_cancel];rfl
  refine qX (el) ?_;have I2:=g.bE (l:=c.told++[a.zZ]);have k3:=y.zY (C:=47) (a:=P.told) (f:=(c.told++[a.zZ]).map λ(i:Nat)=>AV.int (i:Int));refine zA (.cons (.N9 o) (.cons .R3 .nil))<|cU T I2 X (by show((c.met a).t a.zZ).st≠_;exact qX (show(c.met a).t a.zZ=⟨.kS,none,(c.t a.zZ).fS,(c.t a.zZ).ab⟩ from A3 rfl) (λh=>nomatch h)) B s G (λb hb q=>by have:=(T6.mp hb).2;rw[q] at this;simp at this) λH3 Y k4=>?_;have e3:(({c.met a with told:=c.told++[a.zZ]}:TT).t a.zZ).ab=(c.t a.zZ).ab:=by show((c.met a).t a.zZ).ab=_;rw[show(c.met a).t a.zZ=⟨.kS,none,(c.t a.zZ).fS,(c.t a.zZ).ab⟩ from A3 rfl]
  rw[e3,Q3] at Y;have J:=k3.trans k4;refine qI6 T Y (Wf.served z d) (O.keep J) (.qG L (J.qG _ _ _ S)) (.N9 w) λv H4 p k6=>qP (kn k _ _ (Nat.lt_succ_self _) ⟨c.served a,v,p,rfl,w,x,J.trans k6,Wf.served z d,by lia,qX (C6 (A)) (qX (xI e) rfl),?_⟩);refine qX E8 ?_;simp only[qZ3];lia
theorem Gu(T:Z.xR)(I:zW P τ eQ nl H)(W:τ.Wf P)(o:τ.told.length+τ.asks.length<1000)(q:∀H',zW P (τ.zJ P 4) eQ nl H'->qV MS H H'->Q .none H'):qB Z (n+5) 600 [.ref P.th,.ref P.rules,.ref P.told] H Q qM:=by
 refine zH I.C.Pd λl p=>?_;refine Cp T.hh T.ok (Zm T) rfl T.c1 rfl λb r c s=>⟨l,p,_,rfl,λg h e t=>?_⟩;have i:qV MN H (H.qU 90 b (some (.ref P.th))):=qV.refl.qU r;have j:=i.qU (k:=82) (f:=some (.ref P.rules)) (i.fr _ s);have d:=(j.vQ (a:=595) (f:=g)).lC (k:=222) (f:=[(90,b),(82,c)]) (j.fr _ e);have m:((H.qU 90 b (some (.ref P.th))).qU 82 c (some (.ref P.rules))).qG 90 b=some (some (.ref P.th)):=pM (qS ..);have u:((H.qU 90 b (some (.ref P.th))).qU 82 c (some (.ref P.rules))).qG 82 c=some (some (.ref P.rules)):=qS ..;have O:mB P h ((((H.qU 90 b (some (.ref P.th))).qU 82 c (some (.ref P.rules))).vQ 595 g).lC 222 h [(90,b),(82,c)]):=⟨b,c,rT ..,m,u⟩;have v:=I.keep (d.lE);have d:=d.le (N:=MS) (by decide);exact Q4 T v W o O m rfl rfl rfl λy H' w x=>q H' w (d.trans x)
end
section
variable{Z:Ctx}{F:Fm}{R:Value->St->Prop}{H:St}{K:AV->St->Prop}
theorem Gk(a:Rd Z n F R m H e (.ref t))(b:H.obj C t=some g)(d:g k=some (.ref f))(h:wEs Z n F R es m (λvs c=>qB Z n f vs c K R) H):wE Z n F R (.oR C e k es) m K H:=a _ (qZ t rfl (qZ g b (qZ _ d (qZ f rfl h))))
end
theorem zY8(T:Z.xR)(I:zW P τ eQ nl H)(W:τ.Wf P)(a:τ.told.length+τ.asks.length<1000)(q:∀H',zW P (τ.zJ P 4) eQ nl H'->qV MS H H'->Q .none H'):qB Z (n+6) P.again [.ref P.th] H Q qM:=
 sH T.hh T.ok (Xl T) I.C.again rfl rfl<|zA (.cons (.N9 rfl) (.cons (.qG rfl I.C.cR) (.cons (.qG rfl I.C.cT) .nil)))<|Gu T I W a λH' b c=>qP (q H' b c)
noncomputable def TT.jB(P:xZ)(τ:TT)(a:Nat):TT:=if a=0 then τ else τ.zJ P 4
theorem uA:∀{τ:TT},(τ.zJ P k).told.length+(τ.zJ P k).asks.length≤τ.told.length+τ.asks.length:=by
 induction k with
 |zero=>intro τ;exact Nat.le_refl _
 |succ k b=>
  intro τ;cases e:τ.next P with
  |none=>rw[xQ e];exact Nat.le_refl _
  |some a=>
   refine qX (xI e) ?_;refine Nat.le_trans b ?_;have c:=fQ (vO e);have d:(τ.served a).told.length=τ.told.length+1:=by show(τ.told++[a.zZ]).length=_;simp
   lia
theorem cK(T:Z.xR)(I:zW P τ eQ nl H)(W:τ.Wf P)(x:τ.told.length+τ.asks.length<1000)(q:∀H',zW P (τ.jB P nl) eQ 0 H'->qV MT H H'->Q (.bool (decide (nl≠0))) H'):qB Z (n+7) 435 [.ref P.tk] H Q qM:=by
 refine wV I.tk λt lo y c i=>?_;refine uI T (Xu T) rfl<|jW (.R4 (.N9 rfl) y c.Mc)<|gI (λ_ _=>.N9 rfl) y λl o=>?_;have E:=(I.keep (qV.refl.qQ (C:=16) (a:=l) (f:=([]:List AV)) (.inr o))).s8 (f':=up t 37 (.ref l)) (nl':=0) ⟨c.tasks,c.bB,c.bC,c.serve,c.choose,c.iB,rfl,c.settled,c.nn⟩ (Int.le_refl _) (qW ..);have F:qV MT H ((H.qQ 16 l []).qL 409 P.tk (up t 37 (.ref l))):=(qV.refl.qQ (.inr o)).zR;have d:((H.qQ 16 l []).qL 409 P.tk (up t 37 (.ref l))).lst 16 lo=some (C9 nl (.ref P.th)):=vJ i (.inr (o.sB i));refine wW (.val (.R6 (.R4 (.N9 rfl) (qJ ..) (by exact c.serve)) .R3 rfl) rfl) ?_;refine kR (λj k H'=>k 151=some (.ref P.tk)∧k 37=some (.ref lo)∧zW P (τ.jB P j) eQ 0 H'∧qV MT H H'∧H'.lst 16 lo=some (C9 nl (.ref P.th))) (.N9 rfl) d (λ_ _ _ _ h=>h.2.2.2.2) ?_ ⟨rfl,rfl,E,F,d⟩ ?_
 ·intro j v k H' K e z;refine En z λp r I2 m g=>?_;clear z;intro G _;obtain rfl:v=.ref P.th:=List.eq_of_mem_replicate (qJ0 e);refine wV I2.tk λN J s u _=>?_;have L:(τ.jB P j).Wf P:=by unfold TT.jB;split;exact W;exact Wf.zJ W
  have w:(τ.jB P j).told.length+(τ.jB P j).asks.length<1000:=by unfold TT.jB;split;exact x;exact Nat.lt_of_le_of_lt uA x
  refine vV<|Gk (.N9 p) s u.serve<|vU (.cons (.N9 rfl) .nil)<|zY8 T I2 L w λO M A=>qP (G _ _ ⟨p,r,?_,m.trans (A.lE),A.zS g⟩)
  ·have:(τ.jB P j).zJ P 4=τ.jB P (j+1):=by
    unfold TT.jB;rw[D9 (Nat.succ_ne_zero j)];split
    ·rfl
    ·exact xQ (uE W.len)
   exact qX (C6 (this)) (M)
 ·intro k H' B;refine En B λp r I2 m g=>?_;clear B;replace I2:=qK1▸I2;refine jF<|kU<|rd (.N9 r)<|wO λb D=>qZ _ ((i6 (qT g) (qW ..)).trans (by rw[uN];rfl)) ?_;have:=q _ (I2.keep (qV.refl.qQ (C:=34) (a:=b) (f:=([]:List AV)) (.inr D))) (m.qQ (.inr (m.fr _ D)));have e:decide (nl≠0)=!decide (C9 nl (AV.ref P.th)=[]):=by cases nl<;>rfl
  exact qX (C6 (e)) (this)
section
variable{Z:Ctx}{F:Fm}{R:Value->St->Prop}{H:St}{K:AV->St->Prop}
theorem Q5{k:Nat}{d:X}{ifs:dW}{α:Type}{l:List α}{g:α->AV}{inv:St->Prop}{G:List AV->St->Prop}(f:α->Option AV)(u:inv H)
  (z:∀i∈l,(∃y,f i=some y∧jR Z n F R (M.one k (g i)) H (.and ifs) true∧Rd Z n F R (M.one k (g i)) H d y)∨(f i=none∧jR Z n F R (M.one k (g i)) H (.and ifs) false))
  (q:G (l.filterMap f) H):xB inv (λx j H'=>xT Z n F R ifs (M.one k x) (λb h=>if b=true then wE Z n F R d (M.one k x) (λy o=>j (some y) o) h else j none h) H') (l.map g) [] G H:=by
 have p:∀(r a:List α)(c:List AV),a++r=l->c=a.filterMap f->xB inv (λx j H'=>xT Z n F R ifs (M.one k x) (λb h=>if b=true then wE Z n F R d (M.one k x) (λy o=>j (some y) o) h else j none h) H') (r.map g) c G H:=by
  intro r;induction r with
  |nil=>intro a c e m;rw[E7] at e;subst e;exact⟨u,m▸q⟩
  |cons i r v=>
   intro a c e m;have w:(a++[i])++r=l:=by rw[<-e];simp
   have A:=e▸qK2 _ T3;refine⟨u,?_⟩;rcases z i A with B|C
   ·refine zX B λy s t D=>?_;exact t _ (fI (D _ (v (a++[i]) (c++[y]) w (qX m (qX qY3 (qX A8 (qX s rfl)))))))
   ·refine qK C λs t=>?_;exact t _ (mR (v (a++[i]) c w (qX m (qX qY3 (qX A8 (qX s ((E7 _).symm)))))))
 exact p l [] [] rfl rfl
theorem vH{tg d k:Nat}{c a:X}{ifs:dW}{t:Addr}{α:Type}{l:List α}{g:α->AV}(f:α->Option AV)(hit:Rd Z n F R m H a (.ref t))(e:H.lst d t=some (l.map g))(h:l.length<1000000)
  (j:∀i∈l,(∃y,f i=some y∧jR Z n F R (M.one k (g i)) H (.and ifs) true∧Rd Z n F R (M.one k (g i)) H c y)∨(f i=none∧jR Z n F R (M.one k (g i)) H (.and ifs) false))
  (q:∀b,qD H b->K (.ref b) (H.qQ tg b (l.filterMap f))):wE Z n F R (.zO tg c (.one k) (.lst d) a ifs) m K H:=hit _ ⟨t,rfl,_,e,by rw[S6];exact h,Q5 f e j q⟩
theorem Dy{tg k:Nat}{a c:X}{ifs:dW}{N:Nat}(f:Nat->Option AV)(hit:Rd Z n F R m H c (.int N))(h:N<1000)
  (d:∀i,i<N->(∃y,f i=some y∧jR Z n F R (M.one k (.int i)) H (.and ifs) true∧Rd Z n F R (M.one k (.int i)) H a y)∨(f i=none∧jR Z n F R (M.one k (.int i)) H (.and ifs) false))
  (q:∀b,qD H b->K (.ref b) (H.qQ tg b ((B4 N).filterMap f))):wE Z n F R (.zO tg a (.one k) .dZ c ifs) m K H:=by
 refine hit _ ⟨N,rfl,Int.natCast_nonneg N,by lia,?_⟩;have e:lY (N:Int)=(B4 N).map λ(i:Nat)=>AV.int i:=by unfold lY;rw[Int.toNat_natCast]
 refine qX (e) ?_;exact⟨by rw[S6,B9];lia,Q5 (l:=B4 N) f trivial (λi g=>d i (qX4.mp g)) q⟩
end
theorem Za{α β:Type}{p:α->Bool}{g:α->β}:∀{l:List α},l.filterMap (λi=>if p i=true then some (g i) else none)=(l.filter p).map g
 |[]=>rfl
 |a::l=>by
  refine qX (A8) (qX (A6) (qX (Za (l:=l)) ?_));cases p a<;>rfl
noncomputable def TT.F9(τ:TT)(i:Nat):Bool:=decide ((τ.t i).st=.ready)
noncomputable def TT.U7(τ:TT)(i:Nat):Bool:=!decide ((τ.t i).st=.done)
noncomputable def TT.zB(τ:TT)(n:Nat):List Nat:=(B4 n).filter τ.F9
noncomputable def TT.yN(τ:TT)(n:Nat):List Nat:=(B4 n).filter τ.U7
theorem jU(h:i∈B4 k):i<k:=qX4.mp h
theorem zJ3(T:Z.xR)(I:zW P τ eQ nl H)(q:∀b H',qV MN H H'->H'.lst 32 b=some ((τ.zB P.n).map λi=>.ref (P.ts i))->Q (.ref b) H'):qB Z (n+1) 418 [.ref P.tk] H Q qM:=by
 refine wV I.tk λt lo c d _=>?_;refine uI T (Zu T) rfl<|jF<|vH (λi=>if τ.F9 i=true then some (.ref (P.ts i)) else none) (.R4 (.N9 rfl) c d.tasks) I.C.tl (qX B9 (Nat.lt_of_le_of_lt I.C.small (by decide))) (λi e=>?_) λb g=>?_
 ·refine qY (I.task i (jU e)) λf a Wk=>?_;by_cases h:(τ.t i).st=.ready
  ·exact .inl (zU _ (A3 (dct h)) (.yC (.val (.R6 (.R4 (.N9 rfl) a Wk.state) .R5 ((rB .ready rfl).trans (cgA some (dct h)))) rfl) .uK) (.N9 rfl))
  ·exact .inr ⟨D9 (by unfold TT.F9;exact qX (dcf h) Bool.false_ne_true),.vY (.val (.R6 (.R4 (.N9 rfl) a Wk.state) .R5 ((rB .ready rfl).trans (cgA some (dcf h)))) rfl)⟩
 ·refine qX (Za) ?_;exact q b _ (qV.refl.qQ (.inr g)) (qW ..)
theorem Mi(x:Pb):lB .tU (.str x.code) (.str 73) H=some true:=by cases x<;>rfl
theorem Yc(T:Z.xR)(I:zW P τ eQ nl H)(q:∀b H',qV MN H H'->H'.lst 33 b=some ((τ.yN P.n).map λi=>.int (i+1))->Q (.ref b) H'):qB Z (n+1) 423 [.ref P.tk] H Q qM:=by
 refine wV I.tk λt lo c d _=>?_;refine uI T (dM T) rfl<|jF<|vH (λi=>if τ.U7 i=true then some (.int (i+1)) else none) (.R4 (.N9 rfl) c d.tasks) I.C.tl (qX B9 (Nat.lt_of_le_of_lt I.C.small (by decide))) (λi e=>?_) λb g=>?_
 ·refine qY (I.task i (jU e)) λf a Wk=>?_;by_cases h:(τ.t i).st=.done
  ·exact .inr ⟨D9 (by unfold TT.U7;exact qX (dct h) Bool.false_ne_true),.vY (.vY (.val (.R6 (.R4 (.N9 rfl) a Wk.state) .R5 ((Zd .done rfl).trans (qX (dct h) rfl))) rfl))⟩
  ·exact .inl (zU _ (A3 (by unfold TT.U7;exact qX (dcf h) rfl)) (.yC (.yC (.val (.R6 (.R4 (.N9 rfl) a Wk.state) .R5 ((Zd .done rfl).trans (qX (dcf h) rfl))) rfl) (.yC (.val (.R6 (.R4 (.N9 rfl) a Wk.state) .R5 (Mi _)) rfl) .uK)) .uK) (.R4 (.N9 rfl) a Wk.number))
 ·refine qX (Za) ?_;exact q b _ (qV.refl.qQ (.inr g)) (qW ..)
section
variable{P:xZ}{τ:TT}
noncomputable def lQ.uQ(x:lQ):lQ:=⟨.ready,none,if x.st=.zL then .yZ else .none,x.ab⟩
noncomputable def TT.pN(τ:TT)(j:Nat):TT:={τ with t:=λi=>if i<j∧sC τ.time (τ.t i).wake=true then(τ.t i).uQ else τ.t i,asks:=τ.asks.filter λa=>!(decide (a.zZ<j)&&sC τ.time (τ.t a.zZ).wake)}
noncomputable def TT.Tq(τ:TT):Nat->Nat
 |0=>0
 |j+1=>if sC τ.time (τ.t j).wake=true∧(τ.t j).st=.zL then τ.Tq j+1 else τ.Tq j
theorem Tz(τ:TT)(j:Nat):τ.Tq (j+1)=if sC τ.time (τ.t j).wake=true∧(τ.t j).st=.zL then τ.Tq j+1 else τ.Tq j:=rfl
theorem Mo(τ:TT):∀j,τ.Tq j≤j
 |0=>Nat.le_refl _
 |j+1=>by have:=Mo τ j;rw[Tz];split<;>lia
theorem Q6(τ:TT):τ.pN 0=τ:=by
 have b:(λi=>if i<0∧sC τ.time (τ.t i).wake=true then(τ.t i).uQ else τ.t i)=τ.t:=by funext i;rw[D9];rintro⟨h,_⟩;exact Nat.not_lt_zero i h
 have c:τ.asks.filter (λa=>!(decide (a.zZ<0)&&sC τ.time (τ.t a.zZ).wake))=τ.asks:=qQ6.mpr λa _=>by simp
 unfold TT.pN;rw[b,c]
theorem Ui(τ:TT)(j:Nat):(τ.pN j).t j=τ.t j:=D9 λh=>Nat.lt_irrefl _ h.1
theorem Gl(h:sC τ.time (τ.t j).wake=true):((τ.pN j).drop j).xH j (τ.t j).uQ=τ.pN (j+1):=uL (cY (P:=λi=>sC τ.time (τ.t i).wake=true) h) (Zb (b:=λi=>sC τ.time (τ.t i).wake) h)
theorem Tw(h:sC τ.time (τ.t j).wake=false):τ.pN j=τ.pN (j+1):=uL (iD (P:=λi=>sC τ.time (τ.t i).wake=true) (ne_true_of_eq_false h)) (Ub (b:=λi=>sC τ.time (τ.t i).wake) h)
theorem Wf.pN(W:τ.Wf P)(j:Nat):(τ.pN j).Wf P where
 once:=λa d b l e=>W.once a (T6.mp d).1 b (T6.mp l).1 e
 call:=λi f=>by
  show(if i<j∧sC τ.time (τ.t i).wake=true then(τ.t i).uQ else τ.t i).st=_↔_;by_cases c:i<j∧sC τ.time (τ.t i).wake=true
  ·refine qX (A3 c) ?_;refine⟨(λh=>nomatch h),λg=>qY g λa d e=>?_⟩;subst e;have:=(T6.mp d).2;simp[c.1,c.2] at this
  ·rw[D9 c,W.call i f];refine⟨λg=>qY g λa d e=>qZ a (T6.mpr ⟨d,?_⟩) e,λg=>qY g λa d e=>qZ a ((T6.mp d).1) e⟩;subst e;by_cases k:a.zZ<j
   ·have:sC τ.time (τ.t a.zZ).wake=false:=by
     cases h:sC τ.time (τ.t a.zZ).wake with
     |false=>rfl
     |true=>exact absurd ⟨k,h⟩ c
    simp[this]
   ·simp[k]
 name:=λa d=>W.name a (T6.mp d).1
 len:=Nat.le_trans (E9 ..) W.len
 woke:=λi f=>by
  show(if i<j∧sC τ.time (τ.t i).wake=true then(τ.t i).uQ else τ.t i).st≠_->(if i<j∧sC τ.time (τ.t i).wake=true then(τ.t i).uQ else τ.t i).st≠_->(if i<j∧sC τ.time (τ.t i).wake=true then(τ.t i).uQ else τ.t i).wake=_;split
  ·exactλ_ _=>rfl
  ·exact W.woke i f
 meet:=λi f=>by
  show(if i<j∧sC τ.time (τ.t i).wake=true then(τ.t i).uQ else τ.t i).st≠_;split
  ·exactλh=>nomatch h
  ·exact W.meet i f
 nodup:=W.nodup.sublist (qJ8.map _)
end
section
variable{Z:Ctx}{P:xZ}{τ:TT}
theorem Nq(x:Pb):U5 (.str x.code) (.str 180)=some false:=by cases x<;>rfl
theorem Dj(W:τ.Wf P)(hi:i<P.n)(b:(τ.t i).st≠.zL):τ.drop i=τ:=by
 have e:τ.asks.filter (λa=>a.zZ≠i)=τ.asks:=qQ6.mpr λa c=>dct λe=>b ((W.call i hi).mpr (qZ a c e));unfold TT.drop;rw[e]
theorem Dv(T:Z.xR)(I:zW P τ eQ nl H)(W:τ.Wf P)(hi:i<P.n)(h:(τ.t i).st≠.done)(q:∀H',zW P ((τ.drop i).xH i (τ.t i).uQ) eQ nl H'->qV MT H H'->Q .none H'):qB Z (n+3) 248 [.ref (P.ts i)] H Q qM:=by
 refine qY (I.task i hi) λf c Wk=>?_;refine uI T (Xv T) rfl ?_;by_cases b:(τ.t i).st=.zL
 ·refine zX (iC W I hi b) λa m o d=>?_;subst o;refine wI (.val (.R6 (.R4 (.N9 rfl) c Wk.state) .R5 (qX b rfl)) rfl)<|zA (.cons (.R4 (.N9 rfl) c (d f c)) .nil)<|Gw T I W m λp r j=>vV<|qE<|qR<|rd (.N9 rfl)<|qR<|uM λl k=>vU (.cons .R3 .nil) ?_;have s:qV MT H (p.zQ l [.str 35]):=j.zQ (j.fr _ k);have t:=r.keep (qV.refl.zQ (f:=[.str 35]) k);refine dC T t hi h (x:=.yZ) (qZ l rfl (zN ..)) λH' e g=>qP<|qP (q H' ?_ (s.trans (g.lE)));have:(τ.t a.zZ).uQ=⟨.ready,none,.yZ,(τ.t a.zZ).ab⟩:=by unfold lQ.uQ;rw[A3 b]
  exact qX (this) (e)
 ·refine vA (.val (.R6 (.R4 (.N9 rfl) c Wk.state) .R5 ((rB .zL rfl).trans (cgA some (dcf b)))) rfl)<|vA (.val (.R6 (.R4 (.N9 rfl) c Wk.state) .R5 (Nq _)) rfl)<|zA (.cons (.N9 rfl) (.cons .R3 (.cons .R3 .nil)))<|dC T I hi h (x:=.none) rfl λH' e g=>qP<|qP<|qP (q H' ?_ (g.lE));have:(τ.t i).uQ=⟨.ready,none,.none,(τ.t i).ab⟩:=by unfold lQ.uQ;rw[D9 b]
  exact qX this (qX (Dj W hi b) e)
noncomputable def TT.yV(τ:TT)(n:Nat):List (Option Int):=(B4 n).map λi=>(τ.t i).wake
noncomputable def TT.moved(τ:TT)(w:Int):TT:={τ with time:=max τ.time w}
theorem Gp(T:Z.xR)(I:zW P τ eQ nl H)(W:τ.Wf P)(N:nl<900)(M:qY7 (τ.yV P.n)=some w)(q:∀H',zW P ((τ.moved w).pN P.n) eQ (nl+(τ.moved w).Tq P.n) H'->qV MT H H'->Q .none H'):qB Z (n+4) 428 [.ref P.tk] H Q qM:=by
 refine wV I.tk λt lo u x _=>qY I.ck λg O y=>?_;refine uI T (Ve T) rfl<|xF<|qE<|qR<|vH (λi=>some (dS (τ.t i).wake)) (.R4 (.N9 rfl) u x.tasks) I.C.tl (qX B9 (Nat.lt_of_le_of_lt I.C.small (by decide))) (λi R=>?_) λb F=>vU .nil ?_
 ·refine qY (I.task i (jU R)) λf z Wk=>?_;exact .inl (zU _ rfl .uK (.R4 (.N9 rfl) z Wk.wake))
 have e:(B4 P.n).filterMap (λi=>some (dS (τ.t i).wake))=(τ.yV P.n).map dS:=by
  unfold TT.yV;refine qX (qZ7) (qX (qU8) ?_);rfl
 have S:qV MT H (H.qQ 1 b ((B4 P.n).filterMap λi=>some (dS (τ.t i).wake))):=qV.refl.qQ (.inr F);have U:=I.keep (qV.refl.qQ (C:=1) (a:=b) (f:=(B4 P.n).filterMap λi=>some (dS (τ.t i).wake)) (.inr F));refine aG T (ws:=τ.yV P.n) ((qW ..).trans (cgA some e)) ?_;refine qX M ?_;refine wW (.val (.R6 (.N9 rfl) .R3 rfl) rfl)<|zA (.cons (.R4 (.N9 rfl) u x.bB) (.cons (.N9 rfl) .nil))<|Um T O y ?_;have G:=U.r9 (f':=up g 14 (.int (max τ.time w))) rfl;have V:=S.qL (C:=31) (a:=P.ck) (f:=up g 14 (.int (max τ.time w))) (.inl (by decide));have X:(τ.moved w).Wf P:=⟨W.once,W.call,W.name,W.len,W.woke,W.meet,W.nodup⟩;refine kR (λj o H'=>o 151=some (.ref P.tk)∧zW P ((τ.moved w).pN j) eQ (nl+(τ.moved w).Tq j) H'∧qV MT H H') (.R4 (.N9 rfl) (zF u) x.tasks) G.C.tl (λj o H' _ h=>h.2.1.C.tl) ?_ ⟨rfl,by rw[Q6];exact G,V⟩ λo H' Y=>wH Y λ_ d p=>qP (q H' (by rw[S6,B9] at d;exact d) p);intro j v o H' K e2 y3;refine wH y3 λr d p=>?_;intro J _;refine qK (Sc e2) λs z1=>?_;subst z1;refine qY (d.task j s) λf z Wk=>?_;rw[Ui] at Wk;have A:=Wf.pN X j;refine wV d.tk λt3 aa B D _=>qY d.ck λg3 E l=>?_;have m:nl+(τ.moved w).Tq j<1000:=by have:=Mo (τ.moved w) j;have:=I.C.small;lia
 refine jV<|xM<|qE<|vU (.cons (.R4 (.N9 r) B D.bB) (.cons (.R4 (.N9 rfl) z Wk.wake) .nil))<|s9 T E l (qZ _ rfl ?_);cases k:sC ((τ.moved w).pN j).time ((τ.moved w).t j).wake with
 |false=>
  refine mR<|qP (J _ _ ⟨r,?_,p⟩);rw[<-Tw k,Tz,D9 (λh=>by rw[show sC (τ.moved w).time _=false from k] at h;cases h.1)];exact d
 |true=>
  have hs:(((τ.moved w).pN j).t j).st≠.done:=λe=>by
   have:=A.woke j s (by rw[e];exactλh=>nomatch h) (by rw[e];exactλh=>nomatch h);rw[Ui] at this;rw[this] at k;cases k
  refine fI<|zA (.cons (.N9 r) (.cons (.N9 rfl) .nil))<|aF T d A m s λH4 I4 k4=>zA (.cons (.N9 rfl) .nil)<|Dv T I4 A s hs λH5 L k5=>qP<|qP (J _ _ ⟨r,?_,(p.trans k4).trans k5⟩);rw[Ui,Gl k] at L;have e3:nl+(τ.moved w).Tq (j+1)=nl+(τ.moved w).Tq j+if((τ.moved w).t j).st=.zL then 1 else 0:=by
   rw[Tz];by_cases c:((τ.moved w).t j).st=.zL
   ·rw[A3 ⟨k,c⟩,A3 c];exact rfl
   ·rw[D9 (λh=>c h.2),D9 c];exact rfl
  exact qX (e3) (L)
end
section
variable{Z:Ctx}{F:Fm}{R:Value->St->Prop}{H:St}{K:AV->St->Prop}
theorem Q7(b:Rd Z n F R m H e (.ref t))(c:H.lst tg t=some vs)(h:wE Z n F R x m (λu a=>T9 (a.lst tg t) λvs=>vs.length<1000000∧K .none (a.qQ tg t (vs++[u]))) H):wE Z n F R (.append tg e x) m K H:=b _ (qZ t rfl (qZ vs c h))
theorem zJ9(c:Rd Z n F R m H e (.ref t))(h:wE Z n F R i m (λu b=>T9 (b.lst tg t) λvs=>T9 (it u) λj=>T9 (uC vs j) λx=>K x b) H):wE Z n F R (.wZ tg e i) m K H:=by
 refine c (λv d=>wE Z n F R i m (λu b=>T9 (rf v) λa=>T9 (b.lst tg a) λvs=>T9 (it u) λj=>T9 (uC vs j) λx=>K x b) d) ?_;show wE Z n F R i m (λu b=>T9 (some t) λa=>T9 (b.lst tg a) λvs=>T9 (it u) λj=>T9 (uC vs j) λx=>K x b) H;simpa using h
theorem zX2(d:Rd Z n F R m H e (.ref t))(hi:Rd Z n F R m H i (.str j))(c:H.sd tg t=some l)(g:zE l j=some (.int a))(f:Rd Z n F R m H y (.int b))(hz:sV op a b=some z)(q:O6 Z n F R r m Q (H.xV tg t (qJ9 l j (.int z)))):O6 Z n F R (.cons (.Fo tg e i op y) r) m Q H:=
 d _ (hi _ (qZ t rfl (qZ l c (qZ j rfl (qZ _ g (f _ (qZ l c (qZ a rfl (qZ b rfl (qZ z hz q))))))))))
end
theorem qT7{α:Type}{l:List α}{g:α->AV}{j:Int}(b:0≤j)(c:j<l.length):∃x∈l,uC (l.map g) j=some (g x):=by
 have a:j.toNat<l.length:=by lia
 refine qZ (l[j.toNat]) (qK4 a) ?_;unfold uC;refine qX (D9 (by lia)) (qX (A3 b) (qX (D4) (qX (O8 a) ?_)));rfl
structure kK(wl ce:Addr)(H:St):Prop where
 ex:∃(l:List (Nat×AV))(s:Int)(cs:List Int),H.sd 41 wl=some l∧zE l 50=some (.int s)∧0≤s∧zE l 65=some (.ref ce)∧H.lst 42 ce=some (cs.map AV.int)
theorem kK.keep{M:mM}(h:kK wl ce H)(k:qV M H H')(f:41∉M.ms)(g:42∉M.ml):kK wl ce H':=by
 obtain⟨l,s,i,a,b,c,d,e⟩:=h;exact⟨l,s,i,k.sd _ f _ _ a,b,c,d,k.lst _ g _ _ e⟩
section
variable{Z:Ctx}{n:Nat}{H:St}{P:xZ}{τ:TT}
theorem mC(T:Z.xR){b f:Addr}(h:kK b f H){a:Int}(r:0<a)(q:∀j H',0≤j->j<a->kK b f H'->qV MW H H'->Q (.int j) H'):qB Z (n+1) 574 [.ref b,.int a] H Q qM:=by
 obtain⟨l,s,t,u,v,w,y,c⟩:=h;refine uI T (Pf T) rfl<|jW (.qA (.N9 rfl) .R3 u v)<|zX2 (.N9 rfl) .R3 u v .R3 rfl ?_;have d:(H.xV 41 b (qJ9 l 50 (.int (s+1)))).sd 41 b=some (qJ9 l 50 (.int (s+1))):=xA ..;have z:zE (qJ9 l 50 (.int (s+1))) 50=some (.int (s+1)):=by rw[kE];rfl
 have e:zE (qJ9 l 50 (.int (s+1))) 65=some (.ref f):=by rw[kE];exact y
 have i:∀x:Int,Q (.int (x% a)) (H.xV 41 b (qJ9 l 50 (.int (s+1)))):=λx=>q _ _ (Int.emod_nonneg _ (by lia)) (Int.emod_lt_of_pos _ r) ⟨_,s+1,t,d,z,by lia,e,c⟩ (qV.refl.xV (.inl (by decide)));have k:∀x:Int,sV .mod x a=some (x% a):=λx=>A3 r;by_cases m:s<(t.map AV.int).length
 ·refine qY (qT7 (g:=AV.int) w (by simpa using m)) λx _ o=>?_;exact wI (.val (.R6 (.N9 rfl) (.uX (.qA (.N9 rfl) .R3 d e) c) (cgA some (dct m))) rfl)<|wB (.bin (.wZ (.qA (.N9 rfl) .R3 d e) (.N9 rfl) c o) (.N9 rfl) (k x)) (i x)
 ·refine wW (.val (.R6 (.N9 rfl) (.uX (.qA (.N9 rfl) .R3 d e) c) (cgA some (dcf m))) rfl) ?_;by_cases p:s<21
  ·refine qY (qT7 (l:=[1,0,3,1,1,0,1,1,0,0,0,0,0,0,0,1,4,1,0,1,2]) (g:=AV.int) w p) λx _ o=>?_;exact wB (.bin (.P4 (.val (.R6 (.N9 rfl) .gG (cgA some (dct p))) rfl) (.eR (.N9 rfl) o)) (.N9 rfl) (k x)) (i x)
  ·exact wB (.bin (.iteF (.val (.R6 (.N9 rfl) .gG (cgA some (dcf p))) rfl) (.N9 rfl)) (.N9 rfl) (k s)) (i s)
structure lN(P:xZ)(B:Nat)(H:St):Prop where
 well:kK P.well P.cells H
 fn:H.fn 210 P.choose=some [(58,P.cW),(46,P.cS)]
 cw:H.qG 58 P.cW=some (some (.ref P.well))
 cs:H.qG 46 P.cS=some (some (.ref P.seen))
 seen:∃sl,H.lst 65 P.seen=some sl∧sl.length≤B
theorem lN.keep{M:mM}{B:Nat}{H':St}(h:lN P B H)(k:qV M H H')(c:41∉M.ms)(e:42∉M.ml)(d:65∉M.ml):lN P B H':=by
 refine qY h.seen λf a b=>?_;exact⟨h.well.keep k c e,k.fn _ _ _ h.fn,k.qG _ _ _ h.cw,k.qG _ _ _ h.cs,f,k.lst _ d _ _ a,b⟩
theorem Q8(T:Z.xR)(I:zW P τ eQ nl H){B:Nat}(h:lN P B H)(O:B<100000){z:Addr}{rl:List Nat}(A:H.lst 32 z=some (rl.map λi=>.ref (P.ts i)))(t:∀i∈rl,i<P.n)(u:rl≠[])(k:rl.length<1000000)
  (q:∀d∈rl,∀H' c b,lN P (B+1) H'->qV MC H H'->H'.lst 65 P.seen=some (c++[.ref b])->H'.lst 66 b=some (rl.map λ(i:Nat)=>.int i)->Q (.ref (P.ts d)) H'):qB Z (n+2) P.choose [.ref z] H Q qM:=by
 refine qY h.seen λc C v=>?_;refine sH T.hh T.ok (Zh T) h.fn rfl rfl<|vV<|Q7 (.qG rfl h.cs) C<|vH (λ(i:Nat)=>some (.int i)) (.N9 rfl) A k (λi F=>?_) λb D=>zU c (qT C) (by lia) ?_
 ·refine qY (I.task i (t i F)) λf G Wk=>?_;exact .inl (zU _ rfl .uK (.bin (.R4 (.N9 rfl) G Wk.number) .R3 (cgA some (Int.add_sub_cancel ..))))
 have e:rl.filterMap (λ(i:Nat)=>some (AV.int i))=rl.map λ(i:Nat)=>.int i:=qX qU8 rfl;refine qX (e) ?_;have w:qV MC H ((H.qQ 66 b (rl.map λ(i:Nat)=>.int i)).qQ 65 P.seen (c++[.ref b])):=(qV.refl.qQ (.inr D)).zY;have E:((H.qQ 66 b (rl.map λ(i:Nat)=>.int i)).qQ 65 P.seen (c++[.ref b])).lst 65 P.seen=some (c++[.ref b]):=qW ..;have J:((H.qQ 66 b (rl.map λ(i:Nat)=>.int i)).qQ 65 P.seen (c++[.ref b])).lst 66 b=some (rl.map λ(i:Nat)=>.int i):=qT (qW ..);have K:kK P.well P.cells ((H.qQ 66 b (rl.map λ(i:Nat)=>.int i)).qQ 65 P.seen (c++[.ref b])):=h.well.keep (M:={ml:=[65,66]}) ((qV.refl.qQ (.inr D)).zY) (by decide) (by decide);have l:=w.zS A;have x:0<(rl.length:Int):=by cases rl with|nil=>exact absurd rfl u|cons a r=>exact Int.natCast_pos.mpr (Nat.succ_pos _)
 have m:((rl.map λi=>AV.ref (P.ts i)).length:Int)=rl.length:=by rw[S6]
 refine jF<|zJ9 (.N9 rfl)<|qE<|qR<|rd (.qG rfl (w.qG _ _ _ h.cw))<|qR<|rd (.uX (.N9 rfl) l)<|vU .nil<|mC T K (qX m x) λj L y hj1 w2 o=>?_;replace hj1:=m▸hj1;refine qY (qT7 (g:=λi=>AV.ref (P.ts i)) y hj1) λd p N=>?_;have s:=w.trans (o.lE);exact qZ _ (o.zS l) (qZ j rfl (qZ _ N (q d p L c b ⟨w2,s.fn _ _ _ h.fn,s.qG _ _ _ h.cw,s.qG _ _ _ h.cs,_,o.zS E,qX E8 (Nat.succ_le_succ v)⟩ s (o.zS E) (o.zS J))))
theorem Zi(T:Z.xR)(I:zW P τ eQ nl H){B:Nat}(h:lN P B H)(J:B<100000){z:Addr}{rl:List Nat}(r:H.lst 32 z=some (rl.map λi=>.ref (P.ts i)))(d:∀i∈rl,i<P.n)(u:rl≠[])(l:rl.length<1000000)
  (q:∀a∈rl,∀H' s b,lN P (B+1) H'->qV MC H H'->H'.lst 65 P.seen=some (s++[.ref b])->H'.lst 66 b=some (rl.map λ(i:Nat)=>.int i)->Q (.ref (P.ts a)) H'):qB Z (n+3) 442 [.ref P.tk,.ref z] H Q qM:=by
 refine wV I.tk λt lo L M _=>?_;refine uI T (aO T) rfl<|xF<|Gk (.N9 rfl) L M.choose<|vU (.cons (.N9 rfl) .nil)<|Q8 T I h J r d u l λa w N s b O m R S=>?_;have A:=I.keep (m.lE);refine qY (A.task a (d a w)) λf C Wk=>?_;refine kR (λj o H'=>H'=N∧o 105=some (.ref (P.ts a))∧a∉rl.take j) (.N9 rfl) (m.zS r) (λj o H' _ h=>h.1▸m.zS r) ?_ ⟨rfl,rfl,λh=>nomatch h⟩ λo H' U=>wH U λ_ _ p=>absurd w (by rw[S6,qP9] at p;exact p);intro j v o H' K e D;refine wH D λx y p=>?_;clear D;subst x;intro V W;rw[D4] at e;refine qY (B8.mp e) λi E x=>?_;subst x;refine qY (A.task i (d i (qJ0 E))) λg F G=>?_;by_cases c:i=a
 ·subst c;exact wI (.val (.R6 (.R4 (.N9 rfl) F G.number) (.R4 (.N9 y) C Wk.number) (cgA some (dct rfl))) rfl)<|wB (.N9 rfl) (W _ _ _ (q i w H' s b O m R S))
 ·refine wW (.val (.R6 (.R4 (.N9 rfl) F G.number) (.R4 (.N9 y) C Wk.number) (cgA some (dcf (λh=>c (by lia))))) rfl)<|qP (V _ _ ⟨rfl,y,λk=>?_⟩);rw[qW9,E] at k;rcases A4.mp k with k|k
  ·exact p k
  ·exact c (B7.mp k).symm
end
set_option genSizeOf false in
set_option genCtorIdx false in
inductive Turn where
 |go (τ:TT)|over (τ:TT)|stuck (τ:TT)
noncomputable def TT.yZ(τ:TT)(n:Nat)(w:Int):TT:=(τ.moved w).pN n
noncomputable def TT.first(P:xZ)(τ:TT):TT:=(τ.settle P.n).zJ P 4
noncomputable def TT.turn(P:xZ)(τ:TT):Turn:=
 if(τ.first P).zB P.n≠[] then .go (τ.first P) else if(τ.first P).yN P.n=[] then .over (τ.first P) else match qY7 ((τ.first P).yV P.n) with
  |none=>.stuck (τ.first P)
  |some w=>.go (((τ.first P).yZ P.n w).zJ P 4)
section
variable{P:xZ}{τ:TT}
theorem Q9{τ a:TT}(h:τ.asks=a.asks):τ.gJ=a.gJ:=by funext k;unfold TT.gJ;rw[h]
theorem Yd{τ a:TT}(h:τ.asks=a.asks):τ.next P=a.next P:=by unfold TT.next TT.opens jT;rw[Q9 h]
def qP7(n:Nat)(τ:TT):Prop:=∀i,i<n->(τ.t i).st≠.qC∧(τ.t i).xX=false
theorem Gg(τ:TT)(n:Nat):qP7 n (τ.settle n):=λi a=>⟨dO a,Yr (cJ a)⟩
theorem qP7.settle(h:qP7 n τ):τ.settle n=τ:=by unfold TT.settle;rw[dI λi a=>(h i a).2,iA λi a=>(h i a).1]
theorem Wf.settle(W:τ.Wf P):(τ.settle n).Wf P:=Wf.fE (Wf.sA W n) n
theorem Tx{x:lQ}(h:x.xX=false)(a:x.st≠.qC)(b:x.st≠.done):x.ab=false:=by
 unfold lQ.xX at h;rw[dcf a,dcf b] at h;simpa using h
theorem qP7.served{n:Nat}(h:qP7 n τ)(W:τ.Wf P)(c:n≤P.n){a:Ask}(d:a∈τ.asks):qP7 n (τ.served a):=λi b=>by
 show(if i=a.zZ then(⟨.ready,none,.called,(τ.t a.zZ).ab⟩:lQ) else τ.t i).st≠_∧(if i=a.zZ then(⟨.ready,none,.called,(τ.t a.zZ).ab⟩:lQ) else τ.t i).xX=false;by_cases e:i=a.zZ
 ·refine qX (A3 e) ?_;have f:=(W.call i (Nat.lt_of_lt_of_le b c)).mpr (qZ a d e.symm);refine⟨(λq=>nomatch q),?_⟩;have:=Tx (h i b).2 (h i b).1 (qX f (λq=>nomatch q));replace this:=e▸this;show((τ.t a.zZ).ab&&true&&true)=false;exact qX this rfl
 ·exact qX (D9 e) (h i b)
theorem qP7.zJ(b:n≤P.n):∀{k:Nat}{τ:TT},qP7 n τ->τ.Wf P->qP7 n (τ.zJ P k)
 |0,_,h,_=>h
 |k+1,τ,h,W=>by
  cases e:τ.next P with
  |none=>rw[xQ e];exact h
  |some a=>rw[xI e];exact qP7.zJ b (h.served W b (vO e)) (Wf.served W (vO e))
theorem Wf.moved(W:τ.Wf P)(w:Int):(τ.moved w).Wf P:=⟨W.once,W.call,W.name,W.len,W.woke,W.meet,W.nodup⟩
theorem qP7.yZ{n:Nat}(h:qP7 n τ)(W:τ.Wf P)(b:n≤P.n)(w:Int):qP7 n (τ.yZ n w):=λi a=>by
 show(if i<n∧sC (τ.moved w).time (τ.t i).wake=true then(τ.t i).uQ else τ.t i).st≠_∧(if i<n∧sC (τ.moved w).time (τ.t i).wake=true then(τ.t i).uQ else τ.t i).xX=false;by_cases c:i<n∧sC (τ.moved w).time (τ.t i).wake=true
 ·refine qX (A3 c) ?_;refine⟨(λq=>nomatch q),?_⟩;have d:(τ.t i).st≠.done:=λe=>by
   have:=W.woke i (Nat.lt_of_lt_of_le a b) (qX e (λq=>nomatch q)) (qX e (λq=>nomatch q));rw[this] at c;exact nomatch c.2
  have:=Tx (h i a).2 (h i a).1 d;show((τ.t i).ab&&true&&true)=false;exact qX this rfl
 ·exact qX (D9 c) (h i a)
theorem Uo(h:(τ.t i).st=.ready):((τ.served a).t i).st=.ready:=by
 show(if i=a.zZ then(⟨.ready,none,.called,(τ.t a.zZ).ab⟩:lQ) else τ.t i).st=_;by_cases e:i=a.zZ
 ·exact qX (A3 e) rfl
 ·exact qX (D9 e) h
theorem fZ:∀{k:Nat}{τ:TT},(τ.t i).st=.ready->((τ.zJ P k).t i).st=.ready
 |0,_,h=>h
 |k+1,τ,h=>by
  cases e:τ.next P with
  |none=>rw[xQ e];exact h
  |some a=>rw[xI e];exact fZ (Uo h)
theorem jH:i∈τ.zB n↔i<n∧(τ.t i).st=.ready:=by
 unfold TT.zB TT.F9;rw[T6,qX4,decide_eq_true_iff]
theorem Du:∀{ws:List (Option Int)}{w:Int},qY7 ws=some w->some w∈ws:=by
 have d:∀(ws:List (Option Int))(a:Option Int)(w:Int),ws.foldl dT a=some w->a=some w∨some w∈ws:=by
  intro ws;induction ws with
  |nil=>intro a w h;exact .inl h
  |cons x r e=>
   intro a w h;refine qQ0 (e _ _ h) (λh=>?_) λh=>?_
   ·cases x with
    |none=>exact .inl h
    |some x=>
     cases a with
     |none=>exact .inr (h▸T3)
     |some y=>
      have b:(if x<y then some x else some y)=some w:=h;by_cases c:x<y
      ·rw[A3 c] at b;exact .inr (b▸T3)
      ·rw[D9 c] at b;exact .inl b
   ·exact .inr (S9 _ h)
 intro ws w h;refine qQ0 (d ws none w h) (λh=>?_) λh=>?_
 ·cases h
 ·exact h
theorem Zo(h:qY7 (τ.yV n)=some w):(τ.yZ n w).zB n≠[]:=by
 refine qY (T8.mp (Du h)) λi b e=>?_;have b:=qX4.mp b;refine qV7 (a:=i) (jH.mpr ⟨b,?_⟩);show(if i<n∧sC (τ.moved w).time (τ.t i).wake=true then(τ.t i).uQ else τ.t i).st=_;refine qX (A3 ⟨b,qX e (dct (Int.le_max_right ..))⟩) ?_;rfl
theorem zP4(hi:i<n)(a:(τ.t i).xX=true)(b:(τ.t i).st=.zL):τ.Zt n≠0:=by
 induction n with
 |zero=>exact False.elim (Nat.not_lt_zero i hi)
 |succ n c=>
  rw[Gx];by_cases e:i=n
  ·subst e;rw[A3 ⟨a,b⟩];exact Nat.succ_ne_zero _
  ·have:=c (by lia);split
   ·exact Nat.succ_ne_zero _
   ·exact this
theorem zW4(hi:i<n)(a:sC τ.time (τ.t i).wake=true)(b:(τ.t i).st=.zL):τ.Tq n≠0:=by
 induction n with
 |zero=>exact False.elim (Nat.not_lt_zero i hi)
 |succ n c=>
  rw[Tz];by_cases e:i=n
  ·subst e;rw[A3 ⟨a,b⟩];exact Nat.succ_ne_zero _
  ·have:=c (by lia);split
   ·exact Nat.succ_ne_zero _
   ·exact this
theorem rD(W:τ.Wf P)(b:τ.next P=none):(τ.settle P.n).jB P (τ.Zt P.n)=(τ.settle P.n).zJ P 4:=by
 unfold TT.jB;by_cases h:τ.Zt P.n=0
 ·rw[A3 h,xQ];rw[<-b];refine Yd (qQ6.mpr λa d=>?_);by_cases c:a.zZ<P.n
  ·cases e:(τ.t a.zZ).xX with
   |false=>rw[Bool.and_false];rfl
   |true=>exact absurd h (zP4 c e ((W.call _ c).mpr (qZ a d rfl)))
  ·exact qX (dcf c) rfl
 ·exact qX (D9 h) rfl
theorem Gf(W:τ.Wf P)(b:τ.next P=none)(w:Int):(τ.yZ P.n w).jB P ((τ.moved w).Tq P.n)=(τ.yZ P.n w).zJ P 4:=by
 unfold TT.jB;by_cases h:(τ.moved w).Tq P.n=0
 ·rw[A3 h,xQ];rw[<-b];refine Yd (qQ6.mpr λa d=>?_);by_cases c:a.zZ<P.n
  ·cases e:sC (τ.moved w).time ((τ.moved w).t a.zZ).wake with
   |false=>rw[Bool.and_false];rfl
   |true=>exact absurd h (zW4 (τ:=τ.moved w) c e ((W.call _ c).mpr (qZ a d rfl)))
  ·exact qX (dcf c) rfl
 ·exact qX (D9 h) rfl
theorem mD(W:τ.Wf P):(τ.first P).Wf P:=Wf.zJ (Wf.settle W)
theorem vK(W:τ.Wf P):qP7 P.n (τ.first P):=qP7.zJ (Nat.le_refl _) (Gg τ P.n) (Wf.settle W)
theorem Wq(W:τ.Wf P):(τ.first P).next P=none:=uE (Wf.settle W).len
end
theorem zG7(h:wT Z n F R t m (λc e=>if c=true then O6 Z n F R b m (λd m' H'=>match d with|.next|.cont=>wT Z n F R t m' (λg f=>if g=true then O6 Z n F R b m' (λd m' H'=>match d with|.next|.cont=>False|.brk=>O6 Z n F R r m' Q H'|.ret a=>Q (.ret a) m' H') f else O6 Z n F R r m' Q f) H'|.brk=>O6 Z n F R r m' Q H'|.ret a=>Q (.ret a) m' H') e else O6 Z n F R r m Q e) H):O6 Z n F R (.cons (.Jr t b) r) m Q H:=⟨2,h⟩
noncomputable def wF5(r:Ss):Ss:=.cons (.expr (.call (.R5 227 (.ref 385)) (.cons (.N9 151) .nil))) (.cons (.Jr (.val (.call (.R5 206 (.ref 435)) (.cons (.N9 151) .nil))) (.cons (.expr (.call (.R5 227 (.ref 385)) (.cons (.N9 151) .nil))) .nil)) (.cons (.R7 (.N9 81) (.call (.R5 220 (.ref 418)) (.cons (.N9 151) .nil))) (.cons (.ite (.lst 32 (.N9 81)) (.cons (.ret (.call (.R5 224 (.ref 442)) (.cons (.N9 151) (.cons (.N9 81) .nil)))) .nil) .nil) (.cons (.ite (.val (.R6 (.iU 33 35) (.call (.R5 241 (.ref 423)) (.cons (.N9 151) .nil)) (.list 35 .nil))) (.cons (.ret (.R3 .none)) .nil) .nil) r))))
noncomputable def wK6:Ss:=.cons (.expr (.call (.R5 190 (.ref 428)) (.cons (.N9 151) .nil))) .nil
theorem Dk:mY=.cons (.Jr (.val (.R3 (.bool true))) (wF5 wK6)) .nil:=rfl
noncomputable def MP:mM:={mo:=[195,138,409,488,31],ml:=[3,16,47,65],ms:=[41],mt:=[2]}
structure Kq(P:xZ)(τ:TT)(eQ:Int)(B:Nat)(zZ:Nat)(H:St):Prop where
 mem:zZ∈τ.zB P.n
 I:zW P τ eQ 0 H
 C:lN P (B+1) H
 seen:∃sl b,H.lst 65 P.seen=some (sl++[.ref b])∧H.lst 66 b=some ((τ.zB P.n).map λ(i:Nat)=>.int i)
theorem Z3(T:Z.xR)(I:zW P τ eQ nl H)(W:τ.Wf P)(L:∀i,P.ins i=0)(Y:nl<700)(hN:τ.told.length+τ.asks.length<1000)(A:(τ.settle P.n).jB P (nl+τ.Zt P.n)=τ.first P){B:Nat}(C:lN P B H)(V:B<100000){F:Fm}{m:M}{Q:Fl->M->St->Prop}{r:Ss}(k:m 151=some (.ref P.tk))
  (q1:∀d m' H',Kq P (τ.first P) eQ B d H'->qV MP H H'->Q (.ret (.ref (P.ts d))) m' H')
  (q2:(τ.first P).zB P.n=[]->(τ.first P).yN P.n=[]->∀m' H',zW P (τ.first P) eQ 0 H'->lN P B H'->qV MP H H'->Q (.ret .none) m' H')
  (X:(τ.first P).zB P.n=[]->(τ.first P).yN P.n≠[]->∀m' H',m' 151=some (.ref P.tk)->zW P (τ.first P) eQ 0 H'->lN P B H'->qV MP H H'->O6 Z (n+8) F qM r m' Q H'):O6 Z (n+8) F qM (wF5 r) m Q H:=by
 have aa:=I.C.small;have rest:∀H1,zW P (τ.first P) eQ 0 H1->qV MT H H1->O6 Z (n+8) F qM (.cons (.R7 (.N9 81) (.call (.R5 220 (.ref 418)) (.cons (.N9 151) .nil))) (.cons (.ite (.lst 32 (.N9 81)) (.cons (.ret (.call (.R5 224 (.ref 442)) (.cons (.N9 151) (.cons (.N9 81) .nil)))) .nil) .nil) (.cons (.ite (.val (.R6 (.iU 33 35) (.call (.R5 241 (.ref 423)) (.cons (.N9 151) .nil)) (.list 35 .nil))) (.cons (.ret (.R3 .none)) .nil) .nil) r))) m Q H1:=λH1 t u=>by
  have C1:=C.keep u (by decide) (by decide) (by decide);refine gX (.cons (.N9 k) .nil)<|zJ3 T t λb H2 o D=>?_;have I2:=t.keep (o.lE);have N:=C1.keep o (by decide) (by decide) (by decide);have c:qV MP H H2:=(u.lE).trans (o.lE);by_cases p:(τ.first P).zB P.n=[]
  ·have E:decide (((τ.first P).zB P.n).map (λi=>AV.ref (P.ts i))≠[])=false:=qX p rfl;have t1:jR Z (n+8) F qM (up m 81 (.ref b)) H2 (.lst 32 (.N9 81)) (decide (((τ.first P).zB P.n).map (λi=>AV.ref (P.ts i))≠[])):=.lst (.N9 rfl) D;replace t1:=E▸t1;refine wW t1<|jV<|xM<|kU<|qE<|vU (.cons (.N9 k) .nil)<|Yc T I2 λw v g G=>wO λz l=>qZ _ ((gO (qT G) (qW ..)).trans (uN _)) (qZ _ rfl ?_);have x:qV MP H (v.qQ 35 z []):=(c.trans (g.lE)).qQ (.inr ((c.trans (g.lE)).fr _ l));have y:=(I2.keep (g.lE)).keep (qV.refl.qQ (C:=35) (a:=z) (f:=([]:List AV)) (.inr l));have O:=(N.keep g (by decide) (by decide) (by decide)).keep (M:=MN) (qV.refl.qQ (C:=35) (a:=z) (f:=([]:List AV)) (.inr l)) (by decide) (by decide) (by decide);by_cases j:(τ.first P).yN P.n=[]
   ·refine qX (j) ?_;exact fI<|wB .R3 (q2 p j _ _ y O x)
   ·have e:decide (((τ.first P).yN P.n).map (λ(i:Nat)=>AV.int ((i:Int)+1))=[])=false:=dcf λh=>j (qJ7.mp h);refine qX (e) ?_;exact mR<|qP<|X p j _ _ k y O x
  ·have E:decide (((τ.first P).zB P.n).map (λi=>AV.ref (P.ts i))≠[])=true:=dct λh=>p (qJ7.mp h);have t1:jR Z (n+8) F qM (up m 81 (.ref b)) H2 (.lst 32 (.N9 81)) (decide (((τ.first P).zB P.n).map (λi=>AV.ref (P.ts i))≠[])):=.lst (.N9 rfl) D;replace t1:=E▸t1;have q:((τ.first P).zB P.n).length<1000000:=Nat.lt_of_le_of_lt (E9 ..) (by rw[B9];lia);exact wI t1<|jF<|qE<|vU (.cons (.N9 k) (.cons (.N9 rfl) .nil))<|Zi T I2 N V D (λi J=>(jH.mp J).1) p q λd G v sl z C3 g e1 e2=>q1 d _ v ⟨G,I2.keep (g.lE),C3,sl,z,e1,e2⟩ (c.trans (g.lE))
 refine zA (.cons (.N9 k) .nil)<|Gj T I W L (by lia) λH1 t u=>?_;have W1:=Wf.settle (n:=P.n) W;have s:(τ.settle P.n).told.length+(τ.settle P.n).asks.length<1000:=Nat.lt_of_le_of_lt (Nat.add_le_add_left (E9 ..) _) hN;refine zG7<|xM<|qE<|vU (.cons (.N9 k) .nil)<|cK T t W1 s λH2 I2 o=>qZ _ rfl ?_;replace I2:=A▸I2;have c:=u.trans o;by_cases l:nl+τ.Zt P.n=0
 ·refine qX (l) ?_;exact mR (rest H2 I2 c)
 ·refine qX (dct l) ?_;have R:=vK W;have S:=mD W;refine fI<|zA (.cons (.N9 k) .nil)<|Gj T I2 S L (by exact Nat.zero_lt_succ 799) λv U g=>qP ?_;rw[R.settle,Ze λi J=>(R i J).2] at U;have K:(τ.first P).told.length+(τ.first P).asks.length<1000:=Nat.lt_of_le_of_lt uA s;refine xM<|qE<|vU (.cons (.N9 k) .nil)<|cK T U S K λH4 y x=>qZ _ rfl ?_;exact mR (rest H4 y ((c.trans g).trans x))
section
variable{Z:Ctx}{P:xZ}{τ:TT}
theorem cL(h:(τ.first P).zB P.n≠[]):τ.turn P=.go (τ.first P):=A3 h
theorem gV(h:(τ.first P).zB P.n=[])(a:(τ.first P).yN P.n=[]):τ.turn P=.over (τ.first P):=by
 unfold TT.turn;rw[D9 (λq=>q h),A3 a]
theorem lR(h:(τ.first P).zB P.n=[])(a:(τ.first P).yN P.n≠[])(b:qY7 ((τ.first P).yV P.n)=none):τ.turn P=.stuck (τ.first P):=by
 unfold TT.turn;rw[D9 (λq=>q h),D9 a,b]
theorem gU(h:(τ.first P).zB P.n=[])(a:(τ.first P).yN P.n≠[])(b:qY7 ((τ.first P).yV P.n)=some w):τ.turn P=.go (((τ.first P).yZ P.n w).zJ P 4):=by
 unfold TT.turn;rw[D9 (λq=>q h),D9 a,b]
theorem Kz(W:τ.Wf P)(w:Int):(τ.yZ P.n w).Wf P:=Wf.pN (Wf.moved W w) _
theorem Wz(w:Int):(τ.yZ P.n w).told.length+(τ.yZ P.n w).asks.length≤τ.told.length+τ.asks.length:=Nat.add_le_add_left (E9 ..) _
theorem gK:(τ.first P).told.length+(τ.first P).asks.length≤τ.told.length+τ.asks.length:=Nat.le_trans uA (Nat.add_le_add_left (E9 ..) _)
theorem Z4(T:Z.xR)(I:zW P τ eQ 0 H)(W:τ.Wf P)(s:∀i,P.ins i=0)(t:τ.told.length+τ.asks.length<1000)(z:τ.next P=none){B:Nat}(C:lN P B H)(q:B<100000)
  (r:∀a,τ.turn P=.go a->∀b H',Kq P a eQ B b H'->qV MP H H'->Q (.ref (P.ts b)) H')
  (A:∀a,τ.turn P=.over a->∀H',zW P a eQ 0 H'->lN P B H'->qV MP H H'->Q .none H')
  (y:∀a,τ.turn P≠.stuck a):qB Z (n+9) 449 [.ref P.tk] H Q qM:=by
 refine uI T (Va T) rfl ?_;refine qX (Dk) ?_;refine⟨2,(jR.val .R3 rfl) _ (fI<|Z3 T I W s (by decide) t (by rw[Nat.zero_add];exact rD W z) C q rfl ?_ ?_ ?_)⟩
 ·exactλb u H' c k=>r _ (cL (qV7 c.mem)) b H' c k
 ·exactλf g u H' D E k=>A _ (gV f g) H' D E k
 ·intro f g u H' v F G J;cases h:qY7 ((τ.first P).yV P.n) with
  |none=>exact absurd (lR f g h) (y _)
  |some w=>
   have j:=mD W;have K:=gU f g h;refine zA (.cons (.N9 v) .nil)<|(Gp T F j (by decide) h λR L x=>qP ?_:qB Z (n+8) 428 _ _ _ qM);have o:=(vK W).yZ j (Nat.le_refl _) w;have M:=Kz j w;have l:((τ.first P).yZ P.n w).first P=((τ.first P).yZ P.n w).zJ P 4:=cgA (TT.zJ P 4) o.settle;have N:=Mo ((τ.first P).moved w) P.n;have:=I.C.small;have p:=Zo h;have d:(((τ.first P).yZ P.n w).zJ P 4).zB P.n≠[]:=by
    refine zH (qB8 _ p) λi m=>?_;exact qV7 (jH.mpr ⟨(jH.mp m).1,fZ (jH.mp m).2⟩)
   refine(jR.val .R3 rfl) _ (fI<|Z3 T L M s (by lia) (Nat.lt_of_le_of_lt (Nat.le_trans (Wz w) gK) t) ?_ (G.keep x (by decide) (by decide) (by decide)) q v ?_ ?_ ?_)
   ·show TT.jB P (((τ.first P).yZ P.n w).settle P.n) (0+_+((τ.first P).yZ P.n w).Zt P.n)=((τ.first P).yZ P.n w).first P;rw[o.settle,Ze (λi m=>(o i m).2),Nat.add_zero,Nat.zero_add,l];exact Gf j (Wq W) w
   ·intro b S H3 c O;have c:Kq P (((τ.first P).yZ P.n w).first P) eQ B b H3:=c;replace c:=l▸c;exact r _ K b H3 c ((J.trans (x.lE)).trans O)
   ·intro e;exact absurd (l▸(show(((τ.first P).yZ P.n w).first P).zB P.n=[] from e)) d
   ·intro e;exact absurd (l▸(show(((τ.first P).yZ P.n w).first P).zB P.n=[] from e)) d
end
noncomputable def xZ.lk(P:xZ)(i:Nat):xZ:={P with ins:=λj=>if j=i then 1 else 0,wr:=.ref (P.ts i)}
section
variable{Z:Ctx}{F:Fm}{R:Value->St->Prop}{H:St}{K:AV->St->Prop}
theorem zG3(h:H.lst t y=some []):lB (.N3 t) v (.ref y) H=some false:=by
 show((H.lst t y).bind λa=>if a=[] then some false else none)=_;exact qX h rfl
theorem zA6(h:Rd Z n F R m H x v)(a:qL1 H v=some false)(k:wE Z n F R y m K H):wE Z n F R (.or (.cons x (.cons y .nil))) m K H:=h _ (qZ false a (mR k))
end
theorem zW.Ww(I:zW P τ eQ nl H)(k:qV {mo:=[195,488]} H H'){t:Nat->lQ}{ins:Nat->Int}{wr:AV}(d:∀j,j<P.n->∃f,H'.obj 195 (P.ts j)=some f∧kJ {P with ins:=ins,wr:=wr} j (t j) H'.tup f∧∀a∈τ.asks,a.zZ=j->f 26=some (.ref a.c))
  (i:∃f,H'.obj 488 P.th=some f∧ThIs P (H'.lst 37) f∧f 127=some wr):zW {P with ins:=ins,wr:=wr} {τ with t:=t} eQ nl H' where
 C:=let C:=I.C.keep (k.lE);⟨C.inj,C.small,C.sub,C.lm,C.tl,C.rd,C.en,C.rules,C.rlo,C.again,C.cR,C.cT,C.Pd⟩
 task:=λj l=>zX (d j l) λf a b _=>qZ f a b
 asks:=λa e=>by
  refine wH (I.asks a e) λh _ m=>qY m λf n V=>zX (d _ h) λg o _ q=>?_;have V:=V.keep k;exact oQ h (qZ g o (q a e rfl)) (qZ f (k.yB n) ⟨V.number,V.caller,V.target,V.key,V.Pc⟩)
 Fg:=I.Fg
 apart:=I.apart
 queue:=by
  refine qY I.queue λr a b=>?_;exact qZ r (k.P8 a) ⟨b.keys,b.apart,λp s=>wH (b.each p s) λx y z=>⟨x,k.tup _ _ y,k.zS z⟩,b.all⟩
 tk:=by
  refine wV I.tk λf lo a b c=>?_;exact xO f lo (k.yB a) ⟨b.tasks,b.bB,b.bC,b.serve,b.choose,b.iB,b.Mc,b.settled,b.nn⟩ (k.zS c)
 ck:=by
  refine qY I.ck λf a b=>?_;exact qZ f (k.yB a) b
 th:=by
  refine zX i λf a b c=>?_;exact zU f a ⟨b.wD,b.bD,b.entries,b.line⟩ c
 told:=k.zS I.told
theorem kJ.Ww(h:kJ P i x tup f)(a:ins i=P.ins i):kJ {P with ins:=ins,wr:=wr} i x tup f:=
 ⟨h.number,h.state,h.wake,h.answer,h.raised,h.Uh,h.inside.trans (qX (C6 (a)) rfl),h.wL,h.wD,h.xK,h.wA⟩
section
variable{Z:Ctx}{n:Nat}{H:St}{P:xZ}{τ:TT}
theorem Gh(T:Z.xR)(a:H.obj 488 th=some g)(c:g 127=some .none)(e:g 147=some (.ref rl))(d:H.lst 36 rl=some [])(q:∀H',qV MN H H'->Q (.bool true) H'):qB Z (n+1) 499 [.ref th,.bool true] H Q qM:=
 uI T (Vi T) rfl<|wW (.val (.R6 (.R4 (.N9 rfl) a c) .R3 rfl) rfl)<|jF<|zA6 (.not (.N9 rfl) rfl) rfl<|kU<|rd (.R4 (.N9 rfl) a e)<|wO λb f=>qZ true ((gO (qT d) (qW ..)).trans (uN _)) (q _ (qV.refl.qQ (.inr f)))
theorem Dl(T:Z.xR)(b:H.obj 195 ts=some f)(hi:f 107=some (.int i))(a:H.obj 488 th=some g)(q:Q .none ((H.qL 195 ts (up f 107 (.int (i+1)))).qL 488 th (up g 127 (.ref ts)))):qB Z (n+1) 506 [.ref th,.ref ts,.bool true] H Q qM:=
 uI T (Mh T) rfl<|bT (.N9 rfl) b hi .R3 rfl<|wI (.val (.N9 rfl) rfl)<|wY (.N9 rfl) (.N9 rfl) (zF a)<|qP<|qP q
theorem Nz(T:Z.xR)(I:zW P τ eQ nl H)(D:∀j,P.ins j=0)(t:P.wr=.none)(hi:i<P.n)(J:(τ.t i).st≠.done)(s:∀a∈τ.asks,a.zZ≠i)(q:∀H',zW (P.lk i) (τ.xH i {τ.t i with fS:=.none}) eQ nl H'->qV {mo:=[195,488]} H H'->Q .none H'):qB Z (n+2) 513 [.ref P.th,.ref (P.ts i),.bool true] H Q qM:=by
 refine qY (I.task i hi) λf K Wk=>zX I.th λg L l hgw=>?_;replace hgw:=t▸hgw;refine qY l.line λM m E=>?_;have u:((H.qL 195 (P.ts i) (up f 99 .none)).qL 195 (P.ts i) (up (up f 99 .none) 116 .none)).obj 195 (P.ts i)=some (up (up f 99 .none) 116 .none):=qJ ..;have d:((H.qL 195 (P.ts i) (up f 99 .none)).qL 195 (P.ts i) (up (up f 99 .none) 116 .none)).obj 488 P.th=some g:=zF (zF L);have F:qV {mo:=[195,488]} H ((H.qL 195 (P.ts i) (up f 99 .none)).qL 195 (P.ts i) (up (up f 99 .none) 116 .none)):=(qV.refl.zR).zR;refine uI T (Pg T) rfl<|wY .R3 (.N9 rfl) K<|wY .R3 (.N9 rfl) (qJ ..)<|vA (.Pt (.val (.R6 (.N9 rfl) (.R4 (.N9 rfl) d l.bD) (zG3 I.C.rd)) rfl) (.Pt (.vY (.val (.R6 (.R4 (.N9 rfl) d hgw) .R3 rfl) rfl)) .F7)) ?_;refine jV<|dE<|pJ<|xM<|kU<|rd (.R4 (.N9 rfl) d m)<|wO λb N=>qZ true ((gO (qT E) (qW ..)).trans (uN _)) (qZ true rfl (fI<|pJ<|xM<|qE<|vU (.cons (.N9 rfl) (.cons (.N9 rfl) .nil))<|Gh T (g:=g) d hgw l.bD (qT I.C.rd) λU r=>qZ true rfl (fI<|dA<|fI ?_)));have h:=(F.qQ (C:=39) (a:=b) (f:=[]) (.inr (F.fr _ N))).trans (r.lE);have v:=r.yB u;have w:=r.obj 488 (by decide) _ _ d;have o:=Wk.inside;rw[D] at o;refine zA (.cons (.N9 rfl) (.cons (.N9 rfl) (.cons (.N9 rfl) .nil)))<|Dl T v (by exact o) w<|qP<|qP (q _ ?_ ((h.zR).zR));refine I.Ww ((h.zR).zR) (λj G=>?_) (zU _ (qJ ..) ⟨l.wD,l.bD,l.entries,M,m,h.zS E⟩ rfl);by_cases e:j=i
 ·subst e;refine zU _ (zF (qJ ..)) ?_ (λa y q=>absurd q (s a y));refine qX (A3 rfl) ?_;refine qY Wk.Uh λc A B=>?_;exact⟨Wk.number,Wk.state,Wk.wake,qZ .none rfl rfl,rfl,qZ c A (λ_=>B J),cgA (λz=>some (AV.int z)) (A3 rfl:(if j=j then(1:Int) else 0)=1).symm,Wk.wL,Wk.wD,Wk.xK,Wk.wA⟩
 ·refine qY (I.task j G) λO p R=>?_;have k:P.ts j≠P.ts i:=λq=>e (I.C.inj _ _ G hi q);refine zU O (zF (vI (r.yB (show(((H.qL 195 (P.ts i) (up f 99 .none)).qL 195 (P.ts i) (up (up f 99 .none) 116 .none)).qQ 39 b []).obj 195 (P.ts j)=_ from vI (vI p (.inr k)) (.inr k))) (.inr k))) ?_ (λa y q=>?_)
  ·refine qX (D9 e) ?_;exact(R.keep h).Ww ((D9 e:(if j=i then(1:Int) else 0)=0).trans (D j).symm)
  ·refine wH (I.asks a y) λ_ S _=>qY S λx hx A=>?_;replace hx:=q▸hx;obtain rfl:=sj p hx;exact A
end
theorem Z5(T:Z.xR)(a:H.obj 488 th=some g)(c:g 36=some (.ref ln))(d:H.lst 37 ln=some [])(q:∀b H',qV {mo:=[488]} H H'->H'.obj 488 th=some (up g 36 (.ref b))->H'.lst 37 b=some []->Q .none H'):qB Z (n+2) 523 [.ref th] H Q qM:=
 uI T (Cb T) rfl<|vF<|Zs (λ_=>none) (.R4 (.N9 rfl) a c) d (by decide) (λv e=>nomatch e) λb f=>rd (.N9 rfl) (qZ th rfl (qZ g a (Sn (.vY (.lst (vs:=[]) (.R4 (.N9 rfl) (qJ ..) rfl) (show(H.qQ 37 b []).lst 37 b=some [] from qW ..)))<|qP (q b _ ((qV.refl.qQ (.inr f)).zR) (qJ ..) (show(H.qQ 37 b []).lst 37 b=some [] from qW ..)))))
theorem Gm(T:Z.xR)(I:zW (P.lk i) τ eQ nl H)(E:∀j,P.ins j=0)(w:P.wr=.none)(hi:i<P.n)(q:∀H',zW P τ eQ nl H'->qV {mo:=[195,488]} H H'->Q .none H'):qB Z (n+3) 518 [.ref P.th,.ref (P.ts i)] H Q qM:=by
 refine qY (I.task i hi) λf F Wk=>zX I.th λg O o h=>?_;have h:g 127=some (.ref (P.ts i)):=h;refine qY o.line λR y S=>?_;have A:f 107=some (.int 1):=Wk.inside.trans (cgA (λz=>some (AV.int z)) (A3 rfl:(if i=i then(1:Int) else 0)=1));refine f9 T (Vo T) rfl λc U=>?_;have J:qV {mo:=[195,488]} H (H.qU 51 c (some (.ref (P.ts i)))):=qV.refl.qU U;have d:(H.qU 51 c (some (.ref (P.ts i)))).qG 51 c=some (some (.ref (P.ts i))):=qS ..;show O6 Z (n+2) _ qM mJ _ _ (H.qU 51 c (some (.ref (P.ts i))));have p:∀C a,(H.qU 51 c (some (.ref (P.ts i)))).obj C a=H.obj C a:=λ_ _=>rfl;have K:∀a,(H.qU 51 c (some (.ref (P.ts i)))).lst 37 a=H.lst 37 a:=λ_=>rfl;generalize H.qU 51 c (some (.ref (P.ts i)))=G at J d p K⊢;have B:G.obj 195 (P.ts i)=some f:=(p ..).trans F;have l:∀L,(G.qL 195 (P.ts i) L).obj 488 P.th=some g:=λL=>zF ((p ..).trans O);refine bT (.qG rfl d) B A .R3 rfl<|wI (.yC (.val (.R6 (.R4 (.N9 rfl) (l _) h) .R3 rfl) rfl) (.yC (.val (.R6 (.R4 (.R4 (.N9 rfl) (l _) h) (qJ ..) Wk.number) (.R4 (.qG rfl d) (qJ ..) Wk.number) (cgA some (dct rfl))) rfl) .uK)) ?_;refine wY .R3 (.N9 rfl) (l _)<|qP<|zA (.cons (.N9 rfl) .nil)<|Z5 T (qJ ..) (by exact y) (show G.lst 37 R=some [] from(K _).trans S) λb H' r V W=>qP ?_;have M:((G.qL 195 (P.ts i) (up f 107 (.int (1-1)))).qL 488 P.th (up g 127 .none)).obj 195 (P.ts i)=some (up f 107 (.int (1-1))):=zF (qJ ..);have N:∀j x,j<P.n->j≠i->H.obj 195 (P.ts j)=some x->((G.qL 195 (P.ts i) (up f 107 (.int (1-1)))).qL 488 P.th (up g 127 .none)).obj 195 (P.ts j)=some x:=λj x s e u=>zF (vI ((p ..).trans u) (.inr λq=>e (I.C.inj _ _ s hi q)));have v:=((J.qL (C:=195) (a:=P.ts i) (f:=up f 107 (.int (1-1))) (.inl (by decide))).zR (C:=488) (a:=P.th) (f:=up g 127 .none)).trans (r.lE);generalize (G.qL 195 (P.ts i) (up f 107 (.int (1-1)))).qL 488 P.th (up g 127 .none)=G2 at M N r⊢;refine q H' (I.Ww (t:=τ.t) (ins:=P.ins) (wr:=P.wr) v (λj s=>?_) (zU _ V ⟨o.wD,o.bD,o.entries,b,rfl,W⟩ (cgA some w.symm))) v;refine qY (I.task j s) λD m X=>?_;have k:∀a∈τ.asks,a.zZ=j->D 26=some (.ref a.c):=λa Y q=>by
  refine wH (I.asks a Y) λ_ z1 _=>qY z1 λx u k=>?_;rw[q] at u;obtain rfl:=sj m u;exact k
 by_cases e:j=i
 ·subst e;obtain rfl:=sj F m;have Wk:=Wk.keep v;exact zU _ (r.yB M) ⟨Wk.number,Wk.state,Wk.wake,Wk.answer,Wk.raised,Wk.Uh,cgA (λz=>some (AV.int z)) (E j).symm,Wk.wL,Wk.wD,Wk.xK,Wk.wA⟩ k
 ·exact zU D (r.yB (N j D s e m)) ((X.Ww ((E j).trans (D9 e:(if j=i then(1:Int) else 0)=0).symm)).keep v) k
section
variable{Z:Ctx}{F:Fm}{R:Value->St->Prop}{H:St}{K:AV->St->Prop}
theorem Gn(b:Rd Z n F R m H e (.ref a))(c:H.obj C a=some g)(i:g k=none)(h:wEs Z n F R es m (λvs d=>qB Z n f (.ref a::vs) d K R) H):wE Z n F R (.oN C e k f es) m K H:=b _ (qZ a rfl (zU g c i h))
end
structure fW(P:xZ)(i:Nat)(kt:Addr)(num:Int)(dl:AV)(f:M):Prop where
 number:f 113=some (.int num)
 caller:f 102=some (.ref (P.ts i))
 target:f 124=some (.ref P.th)
 key:f 9=some (.ref kt)
 Pc:f 137=some (.bool false)
 dead:f 162=some dl
theorem fW.upA{P:xZ}{a:Addr}{num:Int}{dl:AV}(h:fW P i a num dl f)(b:k∉[113,102,124,9,137,162]):fW P i a num dl (up f k v):=by
 have e:∀j,j∈[113,102,124,9,137,162]->up f k v j=f j:=λj c=>D9 (λq:j=k=>b (q▸c));exact⟨(e _ (by decide)).trans h.number,(e _ (by decide)).trans h.caller,(e _ (by decide)).trans h.target,(e _ (by decide)).trans h.key,(e _ (by decide)).trans h.Pc,(e _ (by decide)).trans h.dead⟩
def sO(v:AV):Prop:=v=.none∨v=.str 30∨∃w,v=.int w∧0≤w∧w≤4
noncomputable def Wx(t:Int):AV->AV
 |.int w=>.int (t+max w 0)
 |_=>.none
noncomputable def MM:mM:={mo:=[195,138,409]}
theorem Xm(T:Z.xR)(I:zW P τ eQ nl H)(q:∀H',zW P τ (eQ+1) nl H'->qV {mo:=[409]} H H'->Q (.int (eQ+1)) H'):qB Z (n+1) 406 [.ref P.tk] H Q qM:=by
 refine wV I.tk λt lo c a b=>?_;refine uI T (mH T) rfl<|bT (.N9 rfl) c a.iB .R3 rfl<|wB (.R4 (.N9 rfl) (qJ ..) rfl) (q _ ?_ (qV.refl.zR));exact I.s8 (f':=up t 145 (.int (eQ+1))) ⟨a.tasks,a.bB,a.bC,a.serve,a.choose,rfl,a.Mc,a.settled,a.nn⟩ (by lia) b
theorem Gr(T:Z.xR)(q:∀x f,qD H x->fW P i kt num .none f->Q (.ref x) (H.qL 138 x f)):qB Z (n+2) 138 [.int num,.ref (P.ts i),.ref P.th,.ref kt,vl] H Q qM:=
 kO T.hh T.ok (Zp T) (bF T) rfl λx a=>qN (.N9 rfl) (.N9 rfl)<|qN (.N9 rfl) (.N9 rfl)<|qN (.N9 rfl) (.N9 rfl)<|qN (.N9 rfl) (.N9 rfl)<|qN (.N9 rfl) (.N9 rfl)<|qN .R5 (.N9 rfl)<|qN .R3 (.N9 rfl)<|qN .R3 (.N9 rfl)<|qN .R3 (.N9 rfl)<|qN .R3 (.N9 rfl)<|qP ⟨rfl,q x _ a ⟨rfl,rfl,rfl,rfl,rfl,rfl⟩⟩
theorem Z6(T:Z.xR)(I:zW P τ eQ nl H){i:Nat}(hi:i<P.n)(W:(τ.t i).st≠.done)(A:∀a∈τ.asks,a.zZ≠i){s:Addr}{L wv:AV}(K:sO wv)
  (q:∀c f t H',zW P (τ.xH i {τ.t i with fS:=.none}) (eQ+1) nl H'->qV MM H H'->H'.obj 138 c=some f->fW P i s (eQ+1) (Wx τ.time wv) f->(∀a∈τ.asks,a.c≠c)->H'.obj 195 (P.ts i)=some t->t 26=some (.ref c)->Q (.ref c) H'):qB Z (n+4) 530 [.ref P.tk,.ref P.th,.ref (P.ts i),.ref s,L,wv] H Q qM:=by
 refine wV I.tk λt lo X Y aa=>?_;refine uI T (Uq T) rfl<|xF<|qE<|qR<|Gn (.N9 rfl) X Y.nn<|vU .nil<|Xm T I λB M k1=>vU (.cons (.N9 rfl) (.cons (.N9 rfl) (.cons (.N9 rfl) (.cons (.N9 rfl) .nil))))<|Gr T (P:=P) (i:=i) λx f hx N=>?_;have h:∀a∈τ.asks,a.c≠x:=λa l=>by
  refine wH (M.asks a l) λ_ _ u=>qY u λg o _=>?_;clear u;exact hx.m8 o
 have O:=M.uH (c:=x) (f':=f) λa l e=>absurd e (h a l);have R:qV MM H (B.qL 138 x f):=(k1.lE).zR;have S:(B.qL 138 x f).obj 138 x=some f:=qJ ..;generalize B.qL 138 x f=G at O R S⊢;have m:lB .uO wv (.str 30) G=some (decide (wv=.str 30)):=by rcases K with rfl|rfl|⟨w,rfl,_⟩<;>rfl
 refine wY (.R6 (.N9 rfl) .R3 m) (.N9 rfl) S ?_;have j:=N.upA (k:=248) (v:=.bool (decide (wv=.str 30))) (by decide);have p:=O.uH (c:=x) (f':=up f 248 (.bool (decide (wv=.str 30)))) λa l e=>absurd e (h a l);have y:=R.qL (C:=138) (a:=x) (f:=up f 248 (.bool (decide (wv=.str 30)))) (.inl (by decide));have r:(G.qL 138 x (up f 248 (.bool (decide (wv=.str 30))))).obj 138 x=some (up f 248 (.bool (decide (wv=.str 30)))):=qJ ..;generalize G.qL 138 x (up f 248 (.bool (decide (wv=.str 30))))=G3 at p y r⊢;generalize up f 248 (.bool (decide (wv=.str 30)))=f3 at j r;have d:∀z H4,H4.obj 138 x=some z->fW P i s (eQ+1) (Wx τ.time wv) z->zW P τ (eQ+1) nl H4->qV MM H H4->O6 Z (n+3) (λ_=>none) qM (.cons (.R7 (.R4 195 (.N9 102) 26) (.N9 26)) (.cons (.R7 (.R4 195 (.N9 102) 99) (.R3 .none)) (.cons (.R7 (.R4 195 (.N9 102) 116) (.R3 .none)) (.cons (.ret (.N9 26)) .nil)))) (up (qV3 [(false,151),(false,90),(false,102),(false,9),(false,126),(false,56)] [.ref P.tk,.ref P.th,.ref (P.ts i),.ref s,L,wv] λ_=>none) 26 (.ref x)) (lP Q) H4:=λz H4 h4 N4 U k4=>by
  refine qY (U.task i hi) λg o Wk=>qY Wk.Uh λb hb D=>?_;refine wY (.N9 rfl) (.N9 rfl) o<|qN .R3 (.N9 rfl)<|qN .R3 (.N9 rfl)<|wB (.N9 rfl) (q x z (up (up (up g 26 (.ref x)) 99 .none) 116 .none) _ ?_ (k4.zR) (zF h4) N4 h (qJ ..) rfl);exact U.jX (x:={τ.t i with fS:=.none}) (f':=up (up (up g 26 (.ref x)) 99 .none) 116 .none) hi o ⟨Wk.number,Wk.state,Wk.wake,qZ .none rfl rfl,rfl,qZ b hb (λ_=>D W),Wk.inside,Wk.wL,Wk.wD,Wk.xK,Wk.wA⟩ (.inl A)
 rcases K with rfl|rfl|V
 ·exact wW (.vY (.val (.R6 (.N9 rfl) .R3 rfl) rfl)) (d f3 G3 r j p y)
 ·exact wW (.yC (.val (.R6 (.N9 rfl) .R3 rfl) rfl) (.vY (.val (.R6 (.N9 rfl) .R3 rfl) rfl))) (d f3 G3 r j p y)
 ·refine qY V λw u _=>?_;clear V;subst u;refine wV p.tk λt3 ab E F _=>qY p.ck λg o J=>?_;refine wI (.yC (.val (.R6 (.N9 rfl) .R3 rfl) rfl) (.yC (.val (.R6 (.N9 rfl) .R3 rfl) rfl) .uK))<|vF<|qE<|vU (.cons (.R4 (.N9 rfl) E F.bB) (.cons (.N9 rfl) .nil))<|bI T o J<|rd (.N9 rfl) ⟨x,rfl,f3,r,qP (d (up f3 162 (.int (τ.time+max w 0))) _ (qJ ..) ⟨j.number,j.caller,j.target,j.key,j.Pc,rfl⟩ (p.uH λa l e=>absurd e (h a l)) (y.zR))⟩
theorem qE9{α β:Type}{f:α->β}{l:List α}(h:(l.map f).Nodup){a b:α}(g:a∈l)(i:b∈l)(e:f a=f b):a=b:=by
 induction l with
 |nil=>cases g
 |cons x r j=>
  rw[B6,O5] at h;rcases E3.mp g with c|c<;>rcases E3.mp i with d|d
  ·exact c.trans d.symm
  ·rw[<-c,e] at h;exact absurd (qZ1 d) h.1
  ·rw[<-d,<-e] at h;exact absurd (qZ1 c) h.1
  ·exact j h.2 c d
theorem Ty(h:H.tup x=some [.str k,.none])(a:H.td t y=some l):lB (.Bj t) (.ref x) (.ref y) H=some (decide (pP l k=none)):=by
 show((sJ H x).bind λk=>(H.td t y).bind λl=>some (decide (pP l k=none)))=_;exact qX (bO h) (qX a rfl)
theorem Dp(h:pP (iX qs) k=some v):decide (pP (iX qs) k=none)=false:=qX h rfl
theorem zC2(T:Z.xR)(I:zW P τ eQ nl H){a:Ask}{f:M}(hi:a.zZ<P.n)(E:H.obj 138 a.c=some f)(V:sS P a H.tup f)(Y:∃t,H.obj 195 (P.ts a.zZ)=some t∧t 26=some (.ref a.c))(D:∀b∈τ.asks,b.num<a.num)(S:a.num≤eQ)(X:∀b∈τ.asks,b.c≠a.c)(U:a.name∈jS)(af:τ.asks.length<1000)
  (q:∀H',zW P {τ with asks:=τ.asks++[a]} eQ nl H'->qV {mo:=[138],ml:=[3],mt:=[2]} H H'->(∃f',H'.obj 138 a.c=some f'∧∀k,k≠86->f' k=f k)->Q .none H'):qB Z (n+1) 149 [.ref P.q,.ref a.c] H Q qM:=by
 refine qY I.queue λqs O W=>qY V.key λR j d=>?_;have fin:∀(H1:St)(i:List (Nat×Addr×Addr))(p:Nat×Addr×Addr),qV {ml:=[3],mt:=[2]} H H1->H1.td 2 P.q=some (iX i)->QIs P τ.asks H1.tup (H1.lst 3) i->p∈i->p.1=a.name->
   O6 Z n (λ_=>none) qM (.cons (.expr (.append 3 (.subQ 2 (.N9 115) (.R4 138 (.N9 26) 9)) (.N9 26))) (.cons (.R7 (.R4 138 (.N9 26) 86) (.R5 97 (.str 114))) .nil)) (qV3 [(false,115),(false,26)] [.ref P.q,.ref a.c] λ_=>none) (lP Q) H1:=λH1 i p F e1 s h m=>by
  have G:=F.yB E;have J:=(s.each p h).2.2;have B:=m▸cX s.keys h;refine mN (.subQ (.N9 rfl) (.R4 (.N9 rfl) G j) e1 (bO (F.tup _ _ d)) B) J (.N9 rfl) ?_ ?_
  ·rw[S6];have:((τ.asks.filter λb=>b.name=p.1)).length≤τ.asks.length:=E9 ..;lia
  have r:=F.qQ (C:=3) (a:=p.2.2) (f:=((τ.asks.filter λb=>b.name=p.1).map λb=>AV.ref b.c)++[.ref a.c]) (.inl (by decide));refine wY .R5 (.N9 rfl) (show(H1.qQ 3 p.2.2 _).obj 138 a.c=some f from G)<|qP (q _ ?_ ((r.lE).zR) ⟨_,qJ ..,λk U=>D9 U⟩);have I2:zW P {τ with asks:=τ.asks++[a]} eQ nl (H1.qQ 3 p.2.2 (((τ.asks.filter λb=>b.name=p.1).map λb=>AV.ref b.c)++[.ref a.c])):=by
   refine I.Sg r (λb c=>?_) (λb c=>?_) ?_ (qZ i e1 ⟨s.keys,s.apart,λw A=>?_,λb c=>?_⟩)
   ·rcases A4.mp c with c|c
    ·refine wH (I.asks b c) λx K z2=>qY K λg y z=>qY z2 λg2 u v=>?_;exact oQ x (qZ g (r.yB y) z) (qZ g2 (r.yB u) (v.keep r))
    ·obtain rfl:=B7.mp c;refine qY Y λt Y aa=>?_;exact oQ hi (qZ t (r.yB Y) aa) (qZ f (r.yB E) (V.keep r))
   ·rcases A4.mp c with c|c
    ·exact I.Fg b c
    ·obtain rfl:=B7.mp c;exact S
   ·rw[C8,qZ0];refine⟨I.apart,by simp,λx L y N e=>?_⟩;refine qY (T8.mp L) λb c K=>?_;subst K;obtain rfl:=B7.mp N;exact absurd e (Int.ne_of_lt (D b c))
   ·refine wH (s.each w A) λx y z=>?_;refine⟨x,y,?_⟩;rw[qM1,C8];by_cases e:w.2.2=p.2.2
    ·have:w=p:=qE9 s.apart A h e;subst this;have ab:[a].filter (λb:Ask=>decide (b.name=w.1))=[a]:=by simp[m]
     refine qX (ab) ?_;exact qW ..
    ·have hn:w.1≠a.name:=λq=>e (by
      have:pP (iX i) a.name=some (.ref w.2.2):=q▸cX s.keys A;replace this:=B▸this;injection this with this
      injection this with this
      exact this.symm)
     have ac:[a].filter (λb:Ask=>decide (b.name=w.1))=[]:=by simp[qN6 hn]
     rw[ac,qD4,E7];exact vJ z (.inr e)
   ·rcases A4.mp c with c|c
    ·exact s.all b c
    ·obtain rfl:=B7.mp c;exact T8.mpr (qZ p h m)
  refine I2.uH λb c e=>?_;rcases A4.mp c with c|c
  ·exact absurd e (X b c)
  ·obtain rfl:=B7.mp c;exact⟨V.number,V.caller,V.target,qZ R j (r.tup _ _ d),V.Pc⟩
 refine uI T (Xw T) rfl ?_;rcases W.look a.name with y2|y1
 ·refine cN y2 λp h m B J=>?_;exact wW (.val (.R6 (.R4 (.N9 rfl) E j) (.N9 rfl) ((Ty d O).trans (cgA some (Dp B)))) rfl) (fin H qs p .refl O W h m)
 ·refine wH y1 λB ae o=>?_;refine wI (.val (.R6 (.R4 (.N9 rfl) E j) (.N9 rfl) ((Ty d O).trans (cgA some (dct B)))) rfl)<|Gz<|wO λl J=>zR8 (.N9 rfl) (.R4 (.N9 rfl) E j) O d (Sp W.keys λp h=>(W.each p h).1) (qP ?_);refine qX (c8 o) ?_;have F:qV {ml:=[3],mt:=[2]} H ((H.qQ 3 l []).xD 2 P.q (iX (qs++[(a.name,R,l)]))):=(qV.refl.zY).xD (.inl (by decide));refine fin _ (qs++[(a.name,R,l)]) (a.name,R,l) F (uF ..) ⟨?_,?_,λp h=>?_,λb c=>?_⟩ (qK2 _ T3) rfl
  ·rw[C8,qZ0];refine⟨W.keys,by simp,λx L y N e=>?_⟩;obtain rfl:=B7.mp N;subst e;exact absurd L o
  ·rw[C8,qZ0];refine⟨W.apart,by simp,λx L y N e=>?_⟩;refine qY (T8.mp L) λp h K=>?_;subst K;rw[B7.mp N] at e;exact absurd e (J.sB (W.each p h).2.2)
  ·rcases A4.mp h with h|h
   ·refine wH (W.each p h) λx y z=>?_;exact⟨x,y,show(H.qQ 3 l []).lst 3 p.2.2=_ from vJ z (.inr (J.sB z))⟩
   ·obtain rfl:=B7.mp h;refine⟨U,d,show(H.qQ 3 l []).lst 3 l=_ from ?_⟩;have:τ.asks.filter (λb=>decide (b.name=a.name))=[]:=ae;refine qX (this) ?_;exact qW ..
  ·exact qX (C8) (qA1 _ (W.all b c))
noncomputable def Wy(t:Int):AV->Option Int
 |.int w=>some (t+max w 0)
 |_=>none
theorem Z7(t:Int)(v:AV):Wx t v=dS (Wy t v):=by cases v<;>rfl
section
variable{P:xZ}{τ:TT}
noncomputable def TT.yD(τ:TT)(i:Nat):TT:=τ.xH i {τ.t i with fS:=.none}
noncomputable def TT.jK(τ:TT)(i:Nat)(x:Ev):TT:=τ.xH i {τ.t i with fS:=x}
noncomputable def TT.rest(τ:TT)(i k:Nat)(wv:AV)(c:Addr)(num:Int):TT:={τ.xH i ⟨.zL,Wy τ.time wv,(τ.t i).fS,(τ.t i).ab⟩ with asks:=τ.asks++[⟨i,k,c,num⟩]}
noncomputable def TT.queue(τ:TT)(i k:Nat)(wv:AV)(c:Addr)(num:Int):TT:=match wv with
 |.str _=>τ.jK i .refused
 |.int w=>if w≤0 then τ.jK i .yZ else τ.rest i k (.int w) c num
 |v=>τ.rest i k v c num
theorem nH(i:Nat)(x y:lQ):(τ.xH i x).xH i y=τ.xH i y:=by
 refine uL ?_ rfl;funext j
 show(if j=i then _ else if j=i then _ else τ.t j)=if j=i then _ else τ.t j
 by_cases e:j=i
 ·exact qX (A3 e) (qX (A3 e) rfl)
 ·exact qX (D9 e) (qX (D9 e) (qX (D9 e) rfl))
theorem Tj(a:x≠.none)(h:tup y=some [.str x.code]):gY tup x (.ref y):=by
 cases x with
 |none=>exact absurd rfl a
 |_=>exact qZ y rfl h
theorem nM(i:Nat)(x:lQ):(τ.xH i x).t i=x:=A3 rfl
theorem Tv(i:Nat):(τ.yD i).yD i=τ.yD i:=by unfold TT.yD;rw[nM,nH]
theorem Z8(i:Nat)(x:Ev):(τ.yD i).jK i x=τ.jK i x:=by unfold TT.yD TT.jK;rw[nM,nH]
end
theorem zO1(T:Z.xR)(I:zW P τ eQ nl H){i k:Nat}{c o:Addr}{f t:M}{wv:AV}(hi:i<P.n)(y:(τ.t i).st≠.done)(u:H.obj 138 c=some f)(N:fW P i o eQ (Wx τ.time wv) f)(p:H.tup o=some [.str k,.none])(z:k∈jS)(A:H.obj 195 (P.ts i)=some t)(l:t 26=some (.ref c))(e:∀b∈τ.asks,b.num<eQ)(m:∀b∈τ.asks,b.c≠c)(h:τ.asks.length<1000)
  (q:∀H',zW P (τ.rest i k wv c eQ) eQ nl H'->qV MT H H'->Q .none H'):qB Z (n+2) 551 [.ref c] H Q qM:=by
 refine zX I.th λg B C _=>?_;refine uI T (dN T) rfl<|zA (.cons (.R4 (.R4 (.N9 rfl) u N.target) B C.wD) (.cons (.N9 rfl) .nil))<|zC2 T I (a:=⟨i,k,c,eQ⟩) hi u ⟨N.number,N.caller,N.target,⟨o,N.key,p⟩,N.Pc⟩ ⟨t,A,l⟩ e (Int.le_refl _) m z h λG v D E=>qY E λf' d r=>?_;have j:=(r 102 (by decide)).trans N.caller;refine qY (v.task i hi) λx w Wk=>qY Wk.Uh λb F s=>?_;refine wY .R5 (.R4 (.N9 rfl) d j) w<|wY (.iteF (.val (.R4 (.N9 rfl) (zF d) ((r 137 (by decide)).trans N.Pc)) rfl) (.R4 (.N9 rfl) (zF d) ((r 162 (by decide)).trans N.dead))) (.R4 (.N9 rfl) (zF d) j) (qJ ..)<|qP (q _ ?_ (((D.lE).zR).zR));rw[xE];exact v.jX (x:=⟨.zL,Wy τ.time wv,(τ.t i).fS,(τ.t i).ab⟩) (f':=up (up x 86 (.str 133)) 57 (Wx τ.time wv)) hi w ⟨Wk.number,rfl,cgA some (Z7 _ _),Wk.answer,Wk.raised,qZ b F (λ_=>s y),Wk.inside,Wk.wL,Wk.wD,Wk.xK,Wk.wA⟩ (.inr rfl)
theorem zJ0(T:Z.xR)(I:zW P τ eQ nl H){i k:Nat}(hi:i<P.n)(W:(τ.t i).st≠.done)(j:∀a∈τ.asks,a.zZ≠i){D:Addr}{Y wv:AV}(X:sO wv)(C:H.tup D=some [.str k,.none])(hk:k∈jS)(l:τ.asks.length<1000)
  (q:∀c H',zW P ((τ.yD i).queue i k wv c (eQ+1)) (eQ+1) nl H'->qV MT H H'->Q .none H'):qB Z (n+5) 544 [.ref P.tk,.ref P.th,.ref (P.ts i),.ref D,Y,wv] H Q qM:=by
 refine uI T (sN T) rfl<|gX (.cons (.N9 rfl) (.cons (.N9 rfl) (.cons (.N9 rfl) (.cons (.N9 rfl) (.cons (.N9 rfl) (.cons (.N9 rfl) .nil))))))<|Z6 T I hi W j X λc f t H1 I1 E F N o J K=>?_;have L:((τ.yD i).t i).st≠.done:=by unfold TT.yD;rw[nM];exact W
 have yZ:∀(x:Ev)(y:Addr),qD ((H1.qL 138 c (up f 86 (.str 43))).qL 195 (P.ts i) (up t 26 .none)) y->x≠.none->∀r,r=(.str x.code)->zW P ((τ.yD i).jK i x) (eQ+1) nl ((((H1.qL 138 c (up f 86 (.str 43))).qL 195 (P.ts i) (up t 26 .none)).zQ y [r]).qL 195 (P.ts i) (up (up t 26 .none) 99 (.ref y))):=λx y g hx r hr=>by
  subst hr;have z:=I1.uH (c:=c) (f':=up f 86 (.str 43)) λa ha e=>absurd e (o a ha);refine qY (z.task i hi) λt' p Wk=>?_;obtain rfl:=sj (show(H1.qL 138 c _).obj 195 (P.ts i)=some t from zF J) p;have I3:=z.jX (f':=up t 26 .none) hi p (Wk.upA (by decide)) (.inl j);rw[Us] at I3;have I4:=I3.keep (qV.refl.zQ (f:=[.str x.code]) g);refine qY (I4.task i hi) λt5 s d=>?_;obtain rfl:=sj (show((((H1.qL 138 c (up f 86 (.str 43))).qL 195 (P.ts i) (up t 26 .none)).zQ y [.str x.code]).obj 195 (P.ts i))=some (up t 26 .none) from qJ ..) s;refine qY d.Uh λb O R=>?_;exact I4.jX (x:={(τ.yD i).t i with fS:=x}) (f':=up (up t 26 .none) 99 (.ref y)) hi s ⟨d.number,d.state,d.wake,qZ _ rfl (Tj hx (zN ..)),d.raised,qZ b O R,d.inside,d.wL,d.wD,d.xK,d.wA⟩ (.inl j)
 have S:∀b∈((τ.yD i).asks),b.num<eQ+1:=λb O=>Int.lt_add_one_of_le (I.Fg b O);have kL:∀y,qD ((H1.qL 138 c (up f 86 (.str 43))).qL 195 (P.ts i) (up t 26 .none)) y->∀r,qV MT H ((((H1.qL 138 c (up f 86 (.str 43))).qL 195 (P.ts i) (up t 26 .none)).zQ y [r]).qL 195 (P.ts i) (up (up t 26 .none) 99 (.ref y))):=λy g r=>
  have A:qV MT H ((H1.qL 138 c (up f 86 (.str 43))).qL 195 (P.ts i) (up t 26 .none)):=((E.lE).zR).zR
  (A.zQ (A.fr _ g)).zR
 have u:(H1.qL 138 c (up f 86 (.str 43))).obj 195 (P.ts i)=some t:=zF J;have rest:∀v,wv=v->(τ.yD i).queue i k v c (eQ+1)=(τ.yD i).rest i k v c (eQ+1)->O6 Z (n+4) (λ_=>none) qM (.cons (.expr (.call (.R5 238 (.ref 551)) (.cons (.N9 26) .nil))) .nil) (up (qV3 [(false,151),(false,90),(false,102),(false,9),(false,126),(false,56)] [.ref P.tk,.ref P.th,.ref (P.ts i),.ref D,Y,wv] λ_=>none) 26 (.ref c)) (λU m' H'=>match U with|.next=>O6 Z (n+4) (λ_=>none) qM .nil m' (lP Q) H'|U=>lP Q U m' H') H1:=λv hv e=>by
  subst hv;refine zA (.cons (.N9 rfl) .nil)<|zO1 T (n:=n+2) (τ:=τ.yD i) I1 hi L F N (E.tup _ _ C) hk J K S o l λH2 z A=>qP<|qP (q c H2 ?_ ((E.lE).trans A));exact qX (e) (z)
 rcases X with rfl|rfl|y1
 ·exact vA (.vY (.val (.R6 (.N9 rfl) .R3 rfl) rfl)) (rest _ rfl rfl)
 ·exact wI (.yC (.val (.R6 (.N9 rfl) .R3 rfl) rfl) (.yC (.F8 (.val (.R6 (.N9 rfl) .R3 rfl) rfl)) .uK))<|wY .R5 (.N9 rfl) F<|wY .R3 (.N9 rfl) u<|vF<|Ud (.val (.R6 (.N9 rfl) .R3 rfl) rfl)<|uM λy g=>rd (.N9 rfl) (qZ _ rfl (qZ _ (qJ ..) (qP<|qP (q c _ (yZ .refused y g (λh=>nomatch h) _ rfl) (kL y g _)))))
 ·refine qY y1 λw z1 _=>?_;clear y1;subst z1;have V:∀{m:M}{G:St},m 56=some (.int w)->Rd Z (n+4) (λ_=>none) qM m G (.R6 .uO (.N9 56) (.R3 (.str 30))) (.bool false):=λh=>.R6 (.N9 h) .R3 rfl;by_cases B:w≤0
  ·refine wI (.yC (.val (.R6 (.N9 rfl) .R3 rfl) rfl) (.yC (.Pt (.val (V rfl) rfl) (.F8 (.val (.R6 (.N9 rfl) .R3 (cgA some (dct B))) rfl))) .uK))<|wY .R5 (.N9 rfl) F<|wY .R3 (.N9 rfl) u<|vF<|iE (.val (V rfl) rfl)<|uM λy g=>rd (.N9 rfl) (qZ _ rfl (qZ _ (qJ ..) (qP<|qP (q c _ ?_ (kL y g _)))));have e1:(τ.yD i).queue i k (.int w) c (eQ+1)=(τ.yD i).jK i .yZ:=A3 B;refine qX (e1) ?_;exact yZ .yZ y g (λh=>nomatch h) _ rfl
  ·exact vA (.yC (.val (.R6 (.N9 rfl) .R3 rfl) rfl) (.vY (.Pt (.val (V rfl) rfl) (.Pt (.val (.R6 (.N9 rfl) .R3 (cgA some (dcf B))) rfl) .F7)))) (rest _ rfl (D9 B))
section
variable{P:xZ}{τ:TT}
noncomputable def TT.hit(τ:TT)(i:Nat):TT:={τ.xH i ⟨.ready,none,.called,(τ.t i).ab⟩ with told:=τ.told++[i]}
noncomputable def TT.tQ(P:xZ)(τ:TT)(i k:Nat)(wv:AV)(c:Addr)(num:Int):TT:=(if jT P τ k=true then τ.hit i else(τ.yD i).queue i k wv c num).zJ P 4
theorem Ye(i:Nat):∀{k:Nat}{τ:TT},τ.zJ (P.lk i) k=τ.zJ P k
 |0,τ=>rfl
 |k+1,τ=>by
  cases e:τ.next P with
  |none=>rw[xQ e,xQ (show τ.next (P.lk i)=none from e)]
  |some a=>rw[xI e,xI (show τ.next (P.lk i)=some a from e),Ye i]
theorem Gs:∀{n:Nat}{l:List Nat},l.Nodup->(∀x∈l,x<n)->l.length≤n
 |0,l,_,h=>by
  cases l with
  |nil=>exact Nat.le_refl _
  |cons a r=>exact absurd (h a T3) (Nat.not_lt_zero _)
 |n+1,l,c,h=>by
  have b:(l.erase n).length≤n:=Gs (c.erase n) λx e=>by
   have d:=c.mem_erase_iff.mp e;have:=h x d.2;exact Nat.lt_of_le_of_ne (Nat.le_of_lt_succ this) d.1
  rw[List.length_erase] at b;split at b
  ·exact Nat.sub_le_iff_le_add.mp b
  ·exact Nat.le_succ_of_le b
theorem Wf.xH(W:τ.Wf P)(hi:i<P.n)(c:(τ.t i).st≠.zL)(f:x.st≠.zL)(d:x.st≠.kS)(b:x.st≠.delayed->x.wake=none):(τ.xH i x).Wf P where
 once:=W.once
 call:=λj a=>by
  show(if j=i then x else τ.t j).st=_↔_;by_cases e:j=i
  ·refine qX (A3 e) ?_;refine⟨λh=>absurd h f,λh=>absurd ((W.call j a).mpr h) (e▸c)⟩
  ·exact qX (D9 e) (W.call j a)
 name:=W.name
 len:=W.len
 woke:=λj a=>by
  show(if j=i then x else τ.t j).st≠_->(if j=i then x else τ.t j).st≠_->(if j=i then x else τ.t j).wake=_;by_cases e:j=i
  ·exact qX (A3 e) (λ_ h=>b h)
  ·exact qX (D9 e) (W.woke j a)
 meet:=λj a=>by
  show(if j=i then x else τ.t j).st≠_;by_cases e:j=i
  ·exact qX (A3 e) (d)
  ·exact qX (D9 e) (W.meet j a)
 nodup:=W.nodup
theorem Wf.told(W:τ.Wf P)(l:List Nat):({τ with told:=l}:TT).Wf P:=⟨W.once,W.call,W.name,W.len,W.woke,W.meet,W.nodup⟩
theorem Wf.rest(W:τ.Wf P)(hi:i<P.n)(r:P.n≤4)(l:∀a∈τ.asks,a.zZ<P.n)(s:(τ.t i).st≠.zL)(t:k∈jS):(τ.rest i k wv c num).Wf P:=by
 have m:∀a∈τ.asks,a.zZ≠i:=λa d e=>s ((W.call i hi).mpr (qZ a d e));have n:((τ.asks++[(⟨i,k,c,num⟩:Ask)]).map (·.zZ)).Nodup:=by
  rw[C8,qZ0];refine⟨W.nodup,by simp,λx o y u e=>?_⟩;refine qY (T8.mp o) λa d v=>?_;subst v;obtain rfl:=B7.mp u;exact m a d e
 have f:∀a∈τ.asks++[(⟨i,k,c,num⟩:Ask)],a.zZ<P.n:=λa d=>by
  rcases A4.mp d with d|d
  ·exact l a d
  ·obtain rfl:=B7.mp d;exact hi
 exact{
  once:=λa d b w e=>qE9 n w d e
  call:=λj g=>by
   show(if j=i then(⟨.zL,Wy τ.time wv,(τ.t i).fS,(τ.t i).ab⟩:lQ) else τ.t j).st=_↔∃a∈τ.asks++[(⟨i,k,c,num⟩:Ask)],a.zZ=j;by_cases e:j=i
   ·refine qX (A3 e) ?_;exact⟨λ_=>qZ _ (qK2 _ T3) e.symm,λ_=>rfl⟩
   ·rw[D9 e,W.call j g];refine⟨λp=>qY p λa d q=>qZ a (qA1 _ d) q,λp=>qY p λa d q=>?_⟩;rcases A4.mp d with d|d
    ·exact qZ a d q
    ·obtain rfl:=B7.mp d;exact absurd q.symm e
  name:=λa d=>by
   rcases A4.mp d with d|d
   ·exact W.name a d
   ·obtain rfl:=B7.mp d;exact t
  len:=Nat.le_trans (by have:=Gs n (λx o=>by obtain⟨a,d,rfl⟩:=T8.mp o;exact f a d);rw[S6] at this;exact this) r
  woke:=λj g=>by
   show(if j=i then(⟨.zL,Wy τ.time wv,(τ.t i).fS,(τ.t i).ab⟩:lQ) else τ.t j).st≠_->(if j=i then(⟨.zL,Wy τ.time wv,(τ.t i).fS,(τ.t i).ab⟩:lQ) else τ.t j).st≠_->(if j=i then(⟨.zL,Wy τ.time wv,(τ.t i).fS,(τ.t i).ab⟩:lQ) else τ.t j).wake=_;by_cases e:j=i
   ·exact qX (A3 e) (λh=>absurd rfl h)
   ·exact qX (D9 e) (W.woke j g)
  meet:=λj g=>by
   show(if j=i then(⟨.zL,Wy τ.time wv,(τ.t i).fS,(τ.t i).ab⟩:lQ) else τ.t j).st≠_;by_cases e:j=i
   ·exact qX (A3 e) (λh=>nomatch h)
   ·exact qX (D9 e) (W.meet j g)
  nodup:=n}
theorem Wf.yD(W:τ.Wf P)(hi:i<P.n)(a:(τ.t i).st=.ready)(x:Ev):(τ.jK i x).Wf P:=
 Wf.xH W hi (qX a (λh=>nomatch h)) (by show(τ.t i).st≠_;exact qX a (λh=>nomatch h)) (by show(τ.t i).st≠_;exact qX a (λh=>nomatch h)) λ_=>W.woke i hi (qX a (λh=>nomatch h)) (qX a (λh=>nomatch h))
theorem Wf.queue(W:τ.Wf P)(hi:i<P.n)(m:P.n≤4)(f:∀a∈τ.asks,a.zZ<P.n)(j:(τ.t i).st=.ready)(n:k∈jS):((τ.yD i).queue i k wv c num).Wf P:=by
 have g:(τ.yD i).Wf P:=Wf.yD W hi j .none;have d:((τ.yD i).t i).st=.ready:=by unfold TT.yD;rw[nM];exact j
 have R:=λv=>Wf.rest g (k:=k) (wv:=v) (c:=c) (num:=num) hi m f (qX d (λh=>nomatch h)) n;cases wv with
 |str s=>exact Wf.yD g hi d .refused
 |int w=>
  by_cases l:w≤0
  ·have e:(τ.yD i).queue i k (.int w) c num=(τ.yD i).jK i .yZ:=A3 l;exact qX (e) (Wf.yD g hi d .yZ)
  ·have e:(τ.yD i).queue i k (.int w) c num=(τ.yD i).rest i k (.int w) c num:=D9 l;exact qX (e) (R _)
 |none=>exact R _
 |bool b=>exact R _
 |ref a=>exact R _
theorem Wf.hit(W:τ.Wf P)(hi:i<P.n)(a:(τ.t i).st=.ready):(τ.hit i).Wf P:=
 Wf.told (Wf.xH W (x:=⟨.ready,none,.called,(τ.t i).ab⟩) hi (qX a (λh=>nomatch h)) (nofun) (nofun) λ_=>rfl) _
end
section
variable{Z:Ctx}{P:xZ}{τ:TT}
theorem Gb(T:Z.xR)(I:zW P τ eQ nl H){i:Nat}(hi:i<P.n)(g:(τ.t i).st≠.done)(d:∀a∈τ.asks,a.zZ≠i){j:Addr}{k wv:AV}(h:sO wv)
  (q:∀c f H',zW P (τ.yD i) (eQ+1) nl H'->qV MM H H'->H'.obj 138 c=some f->f 102=some (.ref (P.ts i))->(∀a∈τ.asks,a.c≠c)->Q (.ref c) H'):qB Z (n+5) 537 [.ref P.tk,.ref P.th,.ref (P.ts i),.ref j,k,wv] H Q qM:=
 uI T (bR T) rfl<|gX (.cons (.N9 rfl) (.cons (.N9 rfl) (.cons (.N9 rfl) (.cons (.N9 rfl) (.cons (.N9 rfl) (.cons (.N9 rfl) .nil))))))<|Z6 T I hi g d h λc f t s l m o N b u p=>wY .R5 (.N9 rfl) o<|wB (.N9 rfl) (q c _ _ (l.uH λa r e=>absurd e (b a r)) (m.zR) (qJ ..) N.caller b)
theorem zS7(T:Z.xR)(I:zW P τ eQ nl H)(W:τ.Wf P)(h0:∀j,P.ins j=0)(J:P.wr=.none)(hN:τ.told.length+τ.asks.length<900){i k:Nat}(hi:i<P.n)(X:(τ.t i).st=.ready){u:Addr}{w:Nat}{wv:AV}(hw:sO wv)(g:H.tup u=some [.str w,.str k,wv])(F:k∈jS)
  (q:∀c H',zW P (τ.tQ P i k wv c (eQ+1)) (eQ+1) nl H'->qV MT H H'->Q .none H'):qB Z (n+9) 607 [.ref P.tk,.ref P.th,.ref (P.ts i),.ref P.rules,.ref P.told,.ref u] H Q qM:=by
 have hd:(τ.t i).st≠.done:=qX X (λh=>nomatch h);have o:∀a∈τ.asks,a.zZ≠i:=λa ha e=>by have:=(W.call i hi).mpr (qZ a ha e);rw[X] at this;first|exact uZ this|exact Bool.noConfusion this|exact nomatch this|(obtain rfl:=B5 this)|exact(this).elim
 have aa:∀a∈τ.asks,a.zZ<P.n:=λa ha=>(I.asks a ha).1;refine uI T (Uw T) rfl<|xF<|Zr (Wn.cons (.xS (.N9 rfl) .R3 g rfl) (.cons .R3 .nil)) (Nat.le_of_ble_eq_true rfl) λK L=>?_;have I0:=I.keep (qV.refl.zQ (f:=[.str k,.none]) L);have k0:qV MT H (H.zQ K [.str k,.none]):=qV.refl.zQ L;have e0:(H.zQ K [.str k,.none]).tup K=some [.str k,.none]:=zN ..;generalize H.zQ K [.str k,.none]=G at I0 k0 e0⊢;refine zA (.cons (.N9 rfl) (.cons (.N9 rfl) (.cons .R3 .nil)))<|Nz T I0 h0 J hi hd o λH1 M k1=>?_;have O:=k0.trans (k1.lE);have M:zW (P.lk i) (τ.yD i) eQ nl H1:=M;have y:((τ.yD i).t i).st≠.done:=by unfold TT.yD;rw[nM];exact hd
 have eP:jT (P.lk i) (τ.yD i) k=jT P τ k:=rfl;refine qY M.C.rules λl hl ab=>?_;have fin:∀(b:TT)(c:Addr)(H2:St),b.zJ P 4=τ.tQ P i k wv c (eQ+1)->b.Wf P->b.told.length+b.asks.length<1000->zW (P.lk i) b (eQ+1) nl H2->qV MT H H2->O6 Z (n+8) (λ_=>none) qM (.cons (.expr (.call (.R5 212 (.ref 600)) (.cons (.N9 90) (.cons (.N9 82) (.cons (.N9 54) .nil))))) (.cons (.expr (.call (.R5 184 (.ref 518)) (.cons (.N9 90) (.cons (.N9 51) .nil)))) .nil)) (up (qV3 [(false,151),(false,90),(false,51),(false,82),(false,54),(false,17)] [.ref P.tk,.ref P.th,.ref (P.ts i),.ref P.rules,.ref P.told,.ref u] λ_=>none) 9 (.ref K)) (lP Q) H2:=λb c H2 e A ac B D=>
  zA (.cons (.N9 rfl) (.cons (.N9 rfl) (.cons (.N9 rfl) .nil)))<|Gu T (P:=P.lk i) B ⟨A.once,A.call,A.name,A.len,A.woke,A.meet,A.nodup⟩ ac λH3 I3 Y=>zA (.cons (.N9 rfl) (.cons (.N9 rfl) .nil))<|Gm T I3 h0 J hi λH4 E R=>qP (q c H4 (by rw[Ye,e] at E;exact E) ((D.trans (Y.lE)).trans (R.lE)))
 refine jV<|xM<|qE<|qR<|rd (.N9 rfl)<|qR<|rd (.xS (.N9 rfl) .R3 (O.tup _ _ g) rfl)<|qR<|qE<|vU (.cons (.N9 rfl) .nil)<|cV T (P:=P.lk i) M λd H2 D ae=>vU .nil<|Yt T (rl:=P.rl) (num:=λk=>((τ.gJ k).length:Int)) (D.Ps hl) ab ae (λk F=>mT F) F (qZ _ rfl ?_);have B:=M.keep (D.lE);have p:=O.trans (D.lE);have m:=p.tup _ _ g;have S:=((k1.le (N:=MT) (by decide)).trans (D.lE)).tup _ _ e0;show if jT P τ k=true then _ else _
 cases hh:jT P τ k with
 |true=>
  refine qY (B.task i hi) λt ht Wk=>?_;refine fI<|mN (.N9 rfl) B.told (.bin (.R4 (.N9 rfl) ht Wk.number) .R3 rfl) (by rw[S6];show τ.told.length<_;lia) ?_;have el:(τ.told.map λ(i:Nat)=>AV.int (i:Int))++[AV.int (((i:Int)+1)-1)]=(τ.told++[i]).map λ(i:Nat)=>AV.int (i:Int):=by
   rw[C8,Int.add_sub_cancel];rfl
  show O6 Z (n+8) _ qM _ _ _ (H2.qQ 47 P.told ((τ.told.map λ(i:Nat)=>AV.int (i:Int))++[AV.int (((i:Int)+1)-1)]));refine qX (el) ?_;have I3:=B.bE (l:=τ.told++[i]);have Y:=p.zY (C:=47) (a:=P.told) (f:=(τ.told++[i]).map λ(i:Nat)=>AV.int (i:Int));refine vV<|qE<|qR<|qE<|qR<|rd (.N9 rfl)<|qR<|rd (.N9 rfl)<|qR<|rd (.N9 rfl)<|qR<|rd (.N9 rfl)<|qR<|wO λz U=>qR<|rd (.xS (.N9 rfl) .R3 m rfl)<|vU .nil ?_;have E:=I3.keep (qV.refl.qQ (C:=48) (a:=z) (f:=([]:List AV)) (.inr U));have R:=Y.qQ (C:=48) (a:=z) (f:=([]:List AV)) (.inr (Y.fr _ U));refine Gb T (P:=P.lk i) E hi y o hw λc f H5 V k5 hf af ag=>vU (.cons .R3 .nil) ?_;have V:zW (P.lk i) {τ.yD i with told:=τ.told++[i]} (eQ+1) nl H5:=by
   have e:({τ.yD i with told:=τ.told++[i]}:TT).yD i={τ.yD i with told:=τ.told++[i]}:=Tv (τ:={τ with told:=τ.told++[i]}) i;exact e▸V
  refine cU T (P:=P.lk i) V hi y hf af ag o λH6 I6 k6=>qP<|fin (τ.hit i) c H6 ?_ (Wf.hit W hi X) ?_ ?_ ((R.trans (k5.lE)).trans (k6.lE))
  ·unfold TT.tQ;rw[A3 hh]
  ·show(τ.told++[i]).length+τ.asks.length<_;refine qX E8 ?_;simp only[qZ3];lia
  ·have e:({τ.yD i with told:=τ.told++[i]}:TT).xH i ⟨.ready,none,.called,(({τ.yD i with told:=τ.told++[i]}:TT).t i).ab⟩=τ.hit i:=by
    have e1:({τ.yD i with told:=τ.told++[i]}:TT).t i={τ.t i with fS:=.none}:=A3 rfl;refine qX (e1) ?_;have:=nH (τ:={τ with told:=τ.told++[i]}) i {τ.t i with fS:=.none} ⟨.ready,none,.called,(τ.t i).ab⟩;exact this
   exact qX (C6 (e)) (I6)
 |false=>
  refine mR<|vV<|qE<|qR<|rd (.N9 rfl)<|qR<|rd (.N9 rfl)<|qR<|rd (.N9 rfl)<|qR<|rd (.N9 rfl)<|qR<|wO λz U=>qR<|rd (.xS (.N9 rfl) .R3 m rfl)<|vU .nil ?_;have E:=B.keep (qV.refl.qQ (C:=48) (a:=z) (f:=([]:List AV)) (.inr U));have R:=p.qQ (C:=48) (a:=z) (f:=([]:List AV)) (.inr (p.fr _ U));refine zJ0 T (P:=P.lk i) E hi y o hw S F (Nat.lt_of_le_of_lt W.len (by decide)) λc H5 V k5=>qP<|fin ((τ.yD i).queue i k wv c (eQ+1)) c H5 ?_ (Wf.queue W hi I.C.small aa X F) ?_ ?_ (R.trans k5)
  ·unfold TT.tQ;rw[D9 (by rw[hh];exact Bool.false_ne_true)]
  ·have:((τ.yD i).queue i k wv c (eQ+1)).told=τ.told∧((τ.yD i).queue i k wv c (eQ+1)).asks.length≤τ.asks.length+1:=by
    have r:∀v,((τ.yD i).rest i k v c (eQ+1)).told=τ.told∧((τ.yD i).rest i k v c (eQ+1)).asks.length≤τ.asks.length+1:=λv=>⟨rfl,by show(τ.asks++[_]).length≤_;exact qX E8 (Nat.le_refl _)⟩;have s:∀x,((τ.yD i).jK i x).told=τ.told∧((τ.yD i).jK i x).asks.length≤τ.asks.length+1:=λx=>⟨rfl,Nat.le_succ _⟩;rcases hw with rfl|rfl|y1
    ·exact r _
    ·exact s _
    ·refine qY y1 λw z1 _=>?_;clear y1;subst z1;by_cases c0:w≤0
     ·have e:(τ.yD i).queue i k (.int w) c (eQ+1)=(τ.yD i).jK i .yZ:=A3 c0;exact qX (e) (s _)
     ·have e:(τ.yD i).queue i k (.int w) c (eQ+1)=(τ.yD i).rest i k (.int w) c (eQ+1):=D9 c0;exact qX (e) (r _)
   refine qX this.1 ?_;lia
  ·have e:((τ.yD i).yD i).queue i k wv c (eQ+1)=(τ.yD i).queue i k wv c (eQ+1):=by rw[Tv]
   exact qX (C6 (e)) (V)
end
noncomputable def TT.N8(τ:TT)(i:Nat)(w:Int):TT:=if w>0 then τ.xH i ⟨.delayed,some (τ.time+w),.none,(τ.t i).ab⟩ else τ.jK i .none
noncomputable def TT.mark(τ:TT)(i:Nat):TT:=τ.xH i {τ.t i with ab:=true}
theorem zY6(T:Z.xR)(b:H.obj 195 t=some f)(a:f 216=some (.bool false))(q:Q (.bool false) H):qB Z (n+1) 220 [.ref t] H Q qM:=
 uI T (Xy T) rfl<|wI (.F8 (.not (.val (.R4 (.N9 rfl) b a) rfl)))<|wB .R3 q
theorem zF8(T:Z.xR)(I:zW P τ eQ nl H)(hi:i<P.n)(d:∀a∈τ.asks,a.zZ≠i)(p:(τ.t i).st≠.done)(h:(τ.t i).ab=false)(q:∀H',zW P (τ.N8 i w) eQ nl H'->qV MT H H'->Q .none H'):qB Z (n+2) 241 [.ref P.tk,.ref (P.ts i),.int w] H Q qM:=by
 refine wV I.tk λt lo r s _=>qY I.ck λg u k=>qY (I.task i hi) λf l Wk=>qY Wk.Uh λb m j=>?_;have o:b=false:=(j p).trans h;subst o;refine uI T (Xj T) rfl<|wY .R3 (.N9 rfl) l<|qN .R3 (.N9 rfl) ?_;have v:qV MT H (H.qL 195 (P.ts i) (up (up f 99 .none) 116 .none)):=qV.refl.zR;have y:(H.qL 195 (P.ts i) (up (up f 99 .none) 116 .none)).obj 195 (P.ts i)=some (up (up f 99 .none) 116 .none):=qJ ..;refine jV<|dE<|pJ<|Md<|xM<|qE<|vU (.cons (.N9 rfl) .nil)<|zY6 T y (by exact m) (qZ false rfl (fI ?_));by_cases c:w>0
 ·refine nF (.val (.R6 (.N9 rfl) .R3 (cgA some (dct c))) rfl)<|dA<|fI<|qN .R5 (.N9 rfl)<|vF<|qE<|vU (.cons (.R4 (.N9 rfl) (zF r) s.bB) (.cons (.N9 rfl) .nil))<|bI T (zF u) k<|rd (.N9 rfl) (qZ _ rfl (qZ _ (qJ ..) (qP<|qP ?_)));rw[xE];refine q _ ?_ (qV.refl.zR);have e:τ.N8 i w=τ.xH i ⟨.delayed,some (τ.time+max w 0),.none,(τ.t i).ab⟩:=by unfold TT.N8;rw[A3 c,Int.max_eq_left (Int.le_of_lt c)]
  refine qX (e) ?_;exact I.jX (f':=up (up (up (up f 99 .none) 116 .none) 86 (.str 135)) 57 (.int (τ.time+max w 0))) hi l ⟨Wk.number,rfl,rfl,qZ .none rfl rfl,rfl,qZ false m (λ_=>h.symm),Wk.inside,Wk.wL,Wk.wD,Wk.xK,Wk.wA⟩ (.inl d)
 ·refine Sr (.val (.R6 (.N9 rfl) .R3 (cgA some (dcf c))) rfl)<|mR<|qP<|qP (q _ ?_ v);have e:τ.N8 i w=τ.jK i .none:=D9 c;refine qX (e) ?_;exact I.jX (x:={τ.t i with fS:=.none}) (f':=up (up f 99 .none) 116 .none) hi l ⟨Wk.number,Wk.state,Wk.wake,qZ .none rfl rfl,rfl,qZ false m j,Wk.inside,Wk.wL,Wk.wD,Wk.xK,Wk.wA⟩ (.inl d)
theorem wQ5(T:Z.xR)(I:zW P τ eQ nl H)(hi:i<P.n)(q:∀H',zW P (τ.mark i) eQ nl H'->qV MT H H'->Q .none H'):qB Z (n+1) 323 [.ref (P.ts i)] H Q qM:=by
 refine qY (I.task i hi) λf a Wk=>wH (I.C.sub i hi) λ_ _ d=>?_;refine uI T (dF T) rfl ?_;by_cases c:(τ.t i).st=.done
 ·refine wI (.val (.R6 (.R4 (.N9 rfl) a Wk.state) .R5 (qX c rfl)) rfl)<|Uf (q _ {I with task:=λj k=>?_} .refl);by_cases e:j=i
  ·subst e;have g:(τ.mark j).t j={τ.t j with ab:=true}:=A3 rfl;refine qX (g) ?_;refine qY Wk.Uh λb l _=>?_;exact qZ f a ⟨Wk.number,Wk.state,Wk.wake,Wk.answer,Wk.raised,qZ b l (λh=>absurd c h),Wk.inside,Wk.wL,Wk.wD,Wk.xK,Wk.wA⟩
  ·have g:(τ.mark i).t j=τ.t j:=D9 e;exact qX (g) (I.task j k)
 ·refine wW (.val (.R6 (.R4 (.N9 rfl) a Wk.state) .R5 ((rB .done rfl).trans (cgA some (dcf c)))) rfl)<|wY .R3 (.N9 rfl) a<|Mb (.R4 (.N9 rfl) (qJ ..) (by exact Wk.wA)) (show(H.qL 195 _ _).lst 12 _=_ from d) ⟨d,qP (q _ ?_ (qV.refl.zR))⟩;exact I.jX (x:={τ.t i with ab:=true}) (f':=up f 216 (.bool true)) hi a ⟨Wk.number,Wk.state,Wk.wake,Wk.answer,Wk.raised,qZ true rfl (λ_=>rfl),Wk.inside,Wk.wL,Wk.wD,Wk.xK,Wk.wA⟩ (.inr rfl)
section
variable{Z:Ctx}{F:Fm}{R:Value->St->Prop}{H:St}{K:AV->St->Prop}
theorem Yi{tg h:Nat}{k:List Nat}{d o:X}{ifs:dW}{t:Addr}{α:Type}{l:List α}{g:α->Addr}(w:α->List AV)(f:α->Option AV)(hit:Rd Z n F R m H o (.ref t))(s:H.lst h t=some (l.map λi=>.ref (g i)))(J:l.length<1000000)(B:∀i∈l,H.tup (g i)=some (w i)∧(w i).length=k.length)
  (L:∀i∈l,(∃y,f i=some y∧jR Z n F R (ups (λ_=>none) k (w i)) H (.and ifs) true∧Rd Z n F R (ups (λ_=>none) k (w i)) H d y)∨(f i=none∧jR Z n F R (ups (λ_=>none) k (w i)) H (.and ifs) false))
  (q:∀b,qD H b->K (.ref b) (H.qQ tg b (l.filterMap f))):wE Z n F R (.zO tg d (.tup k) (.lst h) o ifs) m K H:=by
 refine hit _ ⟨t,rfl,_,s,by rw[S6];exact J,?_⟩;have u:∀(r c:List α)(a:List AV),c++r=l->a=c.filterMap f->xB (λj=>j.lst h t=some (l.map λi=>.ref (g i))) (λx C j=>oS (.tup k) x j λD=>xT Z n F R ifs D (λb E=>if b=true then wE Z n F R d D (λy M=>C (some y) M) E else C none E) j) (r.map λi=>.ref (g i)) a (λa j=>∀l,qD j l->K (.ref l) (j.qQ tg l a)) H:=by
  intro r;induction r with
  |nil=>intro c a e p;rw[E7] at e;subst e;exact⟨s,λb N=>p▸q b N⟩
  |cons i r G=>
   intro c a e p;have I:(c++[i])++r=l:=by rw[<-e];simp
   have v:=e▸qK2 _ T3;refine⟨s,g i,rfl,_,(B i v).1,(B i v).2,?_⟩;refine qQ0 (L i v) (λO=>?_) λP=>?_
   ·refine zX O λy z A Q=>?_;exact A _ (fI (Q _ (G (c++[i]) (a++[y]) I (qX p (qX qY3 (qX A8 (qX z rfl)))))))
   ·refine qK P λz A=>?_;exact A _ (mR (G (c++[i]) a I (by rw[p,qY3,A8,z];exact(E7 _).symm)))
 exact u l [] [] rfl rfl
theorem yF(h:Rd Z n F R m H x a)(c:Rd Z n F R m H e (.ref t))(hi:Rd Z n F R m H i (.int j))(f:H.lst tg t=some vs)(b:0≤j)(d:j<vs.length)(q:O6 Z n F R r m Q (H.qQ tg t (vs.set j.toNat a))):O6 Z n F R (.cons (.R7 (.wZ tg e i) x) r) m Q H:=h _ (c _ (hi _ (qZ t rfl (qZ vs f (rE j rfl b d q)))))
theorem eX(h:wE Z n F R x m (λv d=>wE Z n F R e m (λu b=>wE Z n F R i m (λw c=>T9 (rf u) λa=>T9 (c.lst tg a) λvs=>T9 (it w) λj=>0≤j∧j<vs.length∧O6 Z n F R r m Q (c.qQ tg a (vs.set j.toNat v))) b) d) H):O6 Z n F R (.cons (.R7 (.wZ tg e i) x) r) m Q H:=h
theorem Z9(h:Rd Z n F R m H x a)(b:Rd Z n F R m H e (.ref t))(hi:Rd Z n F R m H i (.str j))(c:H.sd tg t=some l)(q:O6 Z n F R r m Q (H.xV tg t (qJ9 l j a))):O6 Z n F R (.cons (.R7 (.qA tg e i) x) r) m Q H:=h _ (b _ (hi _ (qZ t rfl (qZ l c (qZ j rfl q)))))
theorem Dg(h:wE Z n F R x m (λv d=>wE Z n F R e m (λu b=>wE Z n F R i m (λw c=>T9 (rf u) λa=>T9 (c.sd tg a) λl=>T9 (sr w) λj=>O6 Z n F R r m Q (c.xV tg a (qJ9 l j v))) b) d) H):O6 Z n F R (.cons (.R7 (.qA tg e i) x) r) m Q H:=h
end
theorem nN{α:Type}{g:Nat->α}{n i:Nat}{v:α}:((B4 n).map g).set i v=(B4 n).map λj=>if j=i then v else g j:=by
 apply qN8
 ·simp
 ·intro k a b;simp only[List.getElem_set,qN3,qW5];by_cases e:i=k
  ·exact qX (A3 e) (qX (A3 e.symm) rfl)
  ·exact qX (D9 e) (qX (D9 (λh=>e h.symm)) rfl)
theorem wP.congr(h:wP P τ H)(e:∀i,i<P.n->(τ.t i).st.bcode=(τ'.t i).st.bcode∧(τ.t i).wake=(τ'.t i).wake∧(τ.t i).fS=(τ'.t i).fS∧(τ.t i).ab=(τ'.t i).ab)(j:τ.asks=τ'.asks)(g:τ.told=τ'.told)(f:τ.time=τ'.time):wP P τ' H where
 bk:=qX (C6 (j)) (qX (C6 (f)) h.bk)
 bs:=h.bs.trans (cgA some (D6 λi d=>qX ((e i (jU d)).1) rfl))
 bu:=h.bu.trans (cgA some (D6 λi d=>qX ((e i (jU d)).2.1) rfl))
 ba:=by
  refine zX h.ba λk a b c=>?_;exact zU k a b (λi d=>qX (C6 ((e i d).2.2.1)) (c i d))
 bi:=h.bi.trans (cgA some (D6 λi d=>qX ((e i (jU d)).2.2.2) rfl))
 bt:=qX (C6 (g)) h.bt
theorem wP.xH(h:wP P τ H)(hi:i<P.n)(k:qV {ml:=[52,53,54]} H H')(n:H.lst 54 P.ba=some as)(o:H'.lst 52 P.bs=some (((B4 P.n).map λi=>.str (τ.t i).st.bcode).set i (.str x.st.bcode)))(r:H'.lst 53 P.bu=some (((B4 P.n).map λi=>dS (τ.t i).wake).set i (dS x.wake)))(t:H'.lst 54 P.ba=some (as.set i a))(s:gY H'.tup x.fS a)(f:x.ab=(τ.t i).ab):wP P (τ.xH i x) H' where
 bk:=by
  refine wV h.bk λl bl a b u=>zX u λv c d e=>?_;exact xO l bl (k.Ps a) b (zU v (k.zS c) (λp w=>k.tup _ _ (d p w)) e)
 bs:=o.trans (cgA some (nN.trans (D6 λj _=>by rw[yG];by_cases e:j=i<;>simp[e])))
 bu:=r.trans (cgA some (nN.trans (D6 λj _=>by rw[yG];by_cases e:j=i<;>simp[e])))
 ba:=by
  refine zX h.ba λz A g B=>?_;obtain rfl:=sj n A;refine zU _ t (qX qR8 g) (λj m=>?_);rw[yG];by_cases e:j=i
  ·subst e;rw[A3 rfl];exact qZ a (by rw[qG4 (by rw[g];exact m)]) s
  ·rw[D9 e];refine qY (B j m) λy C D=>?_;exact qZ y (by rw[qF7 (λq=>e q.symm)];exact C) (D.keep k)
 bi:=(k.zS h.bi).trans (cgA some (D6 λj _=>by rw[yG];by_cases e:j=i<;>simp[e,f]))
 bt:=k.zS h.bt
theorem W4(T:Z.xR)(I:wP P τ H)(hi:i<P.n)(f:gY H.tup x a)(q:∀H',wP P (τ.xH i ⟨.ready,none,x,(τ.t i).ab⟩) H'->qV {ml:=[52,53,54]} H H'->Q .none H'):qB Z (n+1) 619 [.ref P.bk,.int i,a] H Q qM:=by
 refine wV I.bk λl bl c W _=>zX I.ba λj e b _=>?_;have g:(i:Int)<(((B4 P.n).map λi=>AV.str (τ.t i).st.bcode).length:Int):=by simp;exact hi
 have h:(i:Int)<(((B4 P.n).map λi=>dS (τ.t i).wake).length:Int):=by simp;exact hi
 have d:=Int.natCast_nonneg i;refine uI T (Ux T) rfl<|yF .R3 (.qA (.N9 rfl) .R3 c W.st) (.N9 rfl) I.bs d g<|yF .R3 (.qA (.N9 rfl) .R3 c W.un) (.N9 rfl) (qT I.bu) d h<|yF (.N9 rfl) (.qA (.N9 rfl) .R3 c W.an) (.N9 rfl) (qT (qT e)) d (by rw[b];lia)<|qP (q _ ?_ (((qV.refl.zY).zY).zY));rw[Int.toNat_natCast];exact I.xH hi (((qV.refl.zY).zY).zY) e (qT (qT (qW ..))) (qT (qW ..)) (qW ..) f rfl
theorem Yo:∀{ps:List (Addr×Ask)},((ps.filterMap λp=>if p.2.name=k then some (AV.int 1) else none).length:Int)=(((ps.map (·.2)).filter λa=>a.name=k).length:Int)
 |[]=>rfl
 |p::r=>by
  have b:=Yo (k:=k) (ps:=r);refine qX (A8) (qX (B6) (qX (A6) ?_));by_cases e:p.2.name=k
  ·refine qX (A3 e) (qX (A3 (dct e)) ?_);simp only[qW2];lia
  ·exact qX (D9 e) (qX (D9 (by simpa using e)) (b))
theorem fY(T:Z.xR)(I:wP P τ H)(y:τ.asks.length<1000)(q:∀d H',qV MN H H'->H'.sd 45 d=some (iY λk=>((τ.gJ k).length:Int))->Q (.ref d) H'):qB Z (n+1) 612 [.ref P.bk] H Q qM:=by
 refine wV I.bk λl bl D W a=>zX a λz r E A=>?_;clear a;have u:z.length<1000000:=by
  have:z.length=τ.asks.length:=by rw[<-A,S6]
  lia
 refine Cl T.hh T.ok (tg:=45) (iW T) rfl λc F=>?_;have h:qV MN H (H.qU 25 c (some (.ref P.bk))):=qV.refl.qU F;have f:(H.qU 25 c (some (.ref P.bk))).qG 25 c=some (some (.ref P.bk)):=qS ..;show O6 Z n _ qM (.cons (.ret (.sX 45 41 vE (.R3 (.str 6)))) .nil) _ _ (H.qU 25 c (some (.ref P.bk)));generalize H.qU 25 c (some (.ref P.bk))=G at h f⊢;refine jF ⟨rfl,by decide,λw m=>?_⟩;have J:qV MN G (G.qU 41 w none):=qV.refl.qU m;refine lM (λj g H'=>qV MN G H'∧(∃o,H'.qG 41 w=some o)∧g=(jS.take j).map λk=>(k,AV.int ((τ.gJ k).length:Int))) (λ_ _ _ _ _=>trivial) ?_ ?_ ⟨J,yU _ (qS ..),rfl⟩
 ·intro j v g H' K e B;refine wH B λs a L=>?_;clear B;refine zH a λo M=>?_;clear a;subst L;intro N;refine zX (Ue e) λk a R O=>?_;subst a;have i:qV MN G (H'.qU 41 w (some (.str k))):=s.qU m;refine qZ o M (qZ _ (qS ..) (qZ _ rfl (qZ k rfl (Sk<|Yi (λp:Addr×Ask=>[.int p.2.zZ,.str p.2.name]) (λp=>if p.2.name=k then some (.int 1) else none) (.qA (.qG (D9 (by decide)) (i.qG _ _ _ f)) .R3 ((h.trans i).Ps D) W.N7) ((h.trans i).zS r) u (λp r=>⟨(h.trans i).tup _ _ (E p r),rfl⟩) (λp r=>?_) λb x=>qZ b rfl (qZ _ (qW ..) (N (some (k,_)) _ ⟨i.qQ (.inr (i.fr _ x)),yU _ (qS ..),?_⟩))))))
  ·by_cases t:p.2.name=k
   ·exact .inl (zU _ (A3 t) (.yC (.val (.R6 (.N9 rfl) (.qG (A3 rfl) (qS ..)) (cgA some (dct t))) rfl) .uK) .R3)
   ·exact .inr ⟨D9 t,.vY (.val (.R6 (.N9 rfl) (.qG (A3 rfl) (qS ..)) (cgA some (dcf t))) rfl)⟩
  ·exact qX qW9 (qX O (qX C8 (qX Yo (qX A rfl))))
 ·intro g H' C;refine wH C λs _ a=>?_;clear C;subst a;intro b x;exact q b _ ((h.trans s).xV (.inr ((h.trans s).fr _ x))) (xA ..)
theorem zV6(d:us=[.int a.zZ,.str a.name]):∀{ps:List (Addr×Ask)},(∀p∈ps,H.tup p.1=some [.int p.2.zZ,.str p.2.name])->(∀p∈ps,p.2.zZ=a.zZ->p.2=a)->((ps.map (·.2)).map (·.zZ)).Nodup->(∃p∈ps,p.2=a)->
  ∃j,gF H us (ps.map λp=>.ref p.1)=some j∧(ps.map λp=>AV.ref p.1).eraseIdx j=((ps.filter λp=>p.2.zZ≠a.zZ).map λp=>AV.ref p.1):=by
 intro ps;induction ps with
 |nil=>
  intro _ _ _ h;obtain⟨p,f,_⟩:=h;cases f
 |cons p r m=>
  intro i k g h;have f:=i p T3;rw[B6,B6,O5] at g;have e:gF H us ((p::r).map λp=>.ref p.1)=if [AV.int p.2.zZ,AV.str p.2.name]=us then some 0 else(gF H us (r.map λp=>.ref p.1)).map (·+1):=by
   show((some p.1).bind λt=>(H.tup t).bind λl=>if(l.all sU&&us.all sU)=true then(if l=us then some 0 else(gF H us (r.map λp=>.ref p.1)).map (·+1)) else none)=_;rw[Option.bind_some,f,d];rfl
  refine qX (e) ?_;by_cases c:p.2.zZ=a.zZ
  ·have n:=k p T3 c;refine qZ 0 (qX n (qX d (qX (A3 rfl) rfl))) ?_;have:r.filter (λp=>decide (p.2.zZ≠a.zZ))=r:=qQ6.mpr λx b=>dct λq=>g.1 (by
    exact qX (c) (qX (C6 (q)) (qZ1 (qZ1 b))))
   exact qX A6 (qX (D9 (by simpa using c)) (qX this rfl))
  ·obtain⟨j,o,s⟩:=m (λx b=>i x (S9 _ b)) (λx b=>k x (S9 _ b)) g.2 (by
    refine qY h λx b ex=>?_;clear h;rcases E3.mp b with rfl|b
    ·exact absurd (cgA Ask.zZ ex) c
    ·exact(qZ x b ex))
   refine qZ (j+1) (by rw[D9,o];rfl;intro q;rw[d] at q;injection q with q _;injection q with q;exact c (Int.ofNat.inj q)) ?_;refine qX (B6) (qX (List.eraseIdx_cons_succ) (qX (s) (qX (A6) (qX (A3 (by simpa using c)) ?_))));rfl
section
variable{Z:Ctx}{F:Fm}{R:Value->St->Prop}{H:St}{K:AV->St->Prop}
theorem Df(h:xB (λ_=>True) (λx c H'=>oS (.one k) x H' λm'=>xT Z n F R ifs m' (λb a=>if b=true then wE Z n F R elt m' (λy d=>c (some y) d) a else c none a) H') [.str 1,.str 2,.str 3] [] (λacc H'=>∀l,qD H' l->K (.ref l) (H'.qQ tg l acc)) H):wE Z n F R (.zO tg elt (.one k) .chars (.R3 (.str 6)) ifs) m K H:=⟨rfl,by decide,h⟩
theorem W5(h:wE Z n F R e m (λv c=>wE Z n F R i m (λu b=>T9 (rf v) λa=>T9 (b.lst tg a) λvs=>T9 (it u) λj=>T9 (uC vs j) λx=>K x b) c) H):wE Z n F R (.wZ tg e i) m K H:=h
theorem Dh(c:Rd Z n F R m H e (.ref a))(d:H.lst tg a=some vs)(h:wE Z n F R x m (λu b=>T9 (b.lst tg a) λvs=>T9 (rf u) λt=>T9 (b.tup t) λus=>vs.length<1000000∧T9 (gF b us vs) λj=>K .none (b.qQ tg a (vs.eraseIdx j))) H):wE Z n F R (.remove tg e x) m K H:=c _ (qZ a rfl (qZ vs d h))
end
structure fJ(P:xZ)(H:St):Prop where
 ex:∃l,H.sd 43 P.rules=some l∧∀k∈jS,zE l k=some (.int (P.rl k))
theorem fJ.keep{M:mM}(h:fJ P H)(k:qV M H H')(c:43∉M.ms):fJ P H':=qY h.ex λl a b=>⟨l,k.sd _ c _ _ a,b⟩
theorem Tu:∀{ps:List (Addr×Ask)},(ps.filterMap λp=>if p.2.name=k then some (AV.int p.2.zZ) else none)=((ps.map (·.2)).filter λa=>a.name=k).map λa=>.int a.zZ
 |[]=>rfl
 |p::r=>by
  have b:=Tu (k:=k) (ps:=r);refine qX (A8) (qX (B6) (qX (A6) ?_));by_cases e:p.2.name=k
  ·exact qX (A3 e) (qX (A3 (dct e)) (qX (B6) (qX (b) rfl)))
  ·exact qX (D9 e) (qX (D9 (by simpa using e)) (b))
theorem Kw:∀{ps:List (Addr×Ask)},((ps.filter λp=>p.2.zZ≠w).map (·.2))=(ps.map (·.2)).filter λa=>a.zZ≠w
 |[]=>rfl
 |p::r=>by
  have b:=Kw (w:=w) (ps:=r);refine qX (B6) (qX (A6) (qX (A6) ?_));by_cases e:p.2.zZ=w
  ·exact qX (D9 (by simpa using e)) (qX (D9 (by simpa using e)) (b))
  ·exact qX (A3 (by simpa using e)) (qX (A3 (by simpa using e)) (qX (B6) (qX (b) rfl)))
theorem wP.Kx(h:wP P τ H){H':St}{ps:List (Addr×Ask)}(k:qV {ml:=[50],ms:=[49]} H H')(j:H'.sd 49 P.bk=some l)(g:Pe P τ.time bl' l)(e:H'.lst 50 bl'=some (ps.map λp=>.ref p.1))(d:∀p∈ps,H'.tup p.1=some [.int p.2.zZ,.str p.2.name])(f:ps.map (·.2)=asks'):wP P {τ with asks:=asks'} H' where
 bk:=xO l bl' j g (zU ps e d f)
 bs:=k.zS h.bs
 bu:=k.zS h.bu
 ba:=zX h.ba λm a b c=>zU m (k.zS a) b (λi n=>qY (c i n) λx y z=>qZ x y (z.keep k))
 bi:=k.zS h.bi
 bt:=k.zS h.bt
theorem wP.qG(h:wP P τ H):wP P τ (H.qU k a f):=⟨h.bk,h.bs,h.bu,h.ba,h.bi,h.bt⟩
theorem wP.bE(h:wP P τ H):wP P {τ with told:=ns} (H.qQ 58 P.bt (ns.map λ(i:Nat)=>AV.int (i:Int))) where
 bk:=by
  refine wV h.bk λl bl a b f=>zX f λg c d e=>?_;exact xO l bl a b (zU g (qT c) d e)
 bs:=qT h.bs
 bu:=qT h.bu
 ba:=let ⟨as,a,b,c⟩:=h.ba;(zU as (qT a) b c)
 bi:=qT h.bi
 bt:=qW ..
section
variable{Z:Ctx}{n:Nat}{H:St}{P:xZ}{τ:TT}
theorem zG9{α:Type}(l:List α):decide ((l.length:Int)>0)=!l.isEmpty:=by
 cases l with
 |nil=>rfl
 |cons a r=>exact dct (Int.natCast_pos.mpr (Nat.succ_pos _))
inductive OI(P:xZ)(H:St)(τ:TT)(c1 c2 c3:Addr)(k:Nat)(m':M)(H':St):Prop where
 |mk (m1:m' 25=some (.ref P.bk)) (e1:H'.qG 82 c1=some (some (.ref P.rules))) (o2:Option AV) (e2:H'.qG 145 c2=some o2) (o3:Option AV) (e3:H'.qG 76 c3=some o3) (kk:qV MB H H') (τ':TT) (I':wP P τ' H') (W':τ'.Wf P) (hlt':∀a∈τ'.asks,a.zZ<P.n) (hN':τ'.told.length+τ'.asks.length<1000) (hl:τ'.asks.length<k) (hs:τ'.zJ P (k-1)=τ.zJ P 4)
theorem cP(T:Z.xR)(I:wP P τ H)(W:τ.Wf P)(cb:∀a∈τ.asks,a.zZ<P.n)(hN:τ.told.length+τ.asks.length<1000)(hR:fJ P H)(q:∀H',wP P (τ.zJ P 4) H'->qV MB H H'->Q .none H'):qB Z (n+3) 624 [.ref P.bk,.ref P.rules] H Q qM:=by
 refine tD T.hh T.ok (sR T) rfl λJ h1 m h2 g h3=>?_;have k1:qV MB H (H.qU 82 J (some (.ref P.rules))):=qV.refl.qU h1;have k2:=k1.qU (k:=145) (f:=none) (k1.fr _ h2);have k3:=k2.qU (k:=76) (f:=none) (k2.fr _ h3);have f2:=k1.fr _ h2;have f3:=k2.fr _ h3;refine Zn (OI P H τ J m g) (OI P H τ J m g)
  (λk m' H' K i kt _=>(jR.val .R3 rfl:jR Z (n+2) _ qM m' H' _ true) _ (kt _ i)) ?_ (k:=5) ⟨rfl,pM (pM (qS ..)),_,pM (qS ..),_,qS ..,k3,τ,I.keep (((qV.refl.qU h1).qU f2).qU f3),W,cb,hN,Nat.lt_of_le_of_lt W.len (by decide),rfl⟩
 intro k m' H' K y1;obtain⟨U,e1,o2,e2,o3,e3,kk,c,I',W',D,dd,hl,hs⟩:=y1;intro kn kr;refine cQ<|qE<|vU (.cons (.N9 U) .nil)<|fY T I' (Nat.lt_of_le_of_lt W'.len (by decide)) λd L q1 hd=>qZ m rfl (qZ o2 (q1.qG _ _ _ e2) ?_);have K1:qV MB H (L.qU 145 m (some (.ref d))):=(kk.trans (q1.lE)).qU f2;have g1:(L.qU 145 m (some (.ref d))).qG 82 J=some (some (.ref P.rules)):=pM (q1.qG _ _ _ e1);have g2:(L.qU 145 m (some (.ref d))).qG 145 m=some (some (.ref d)):=qS ..;have g3:(L.qU 145 m (some (.ref d))).qG 76 g=some o3:=pM (q1.qG _ _ _ e3);have I1:wP P c (L.qU 145 m (some (.ref d))):=(I'.keep (q1.lE)).qG;have aa:(L.qU 145 m (some (.ref d))).sd 45 d=some (iY λk=>((c.gJ k).length:Int)):=hd;generalize L.qU 145 m (some (.ref d))=G at K1 g1 g2 g3 I1 aa⊢;refine qY ((hR.keep K1 (by decide)).ex) λrl cc cd=>?_;refine cQ<|Df<|lM (λj N H'=>qV MN G H'∧N=((jS.take j).filter (c.opens P)).map AV.str) (λ_ _ _ _ _=>trivial) ?_ ?_ ⟨.refl,rfl⟩
 ·intro j v N H2 V e y2;refine qK y2 λu E=>?_;clear y2;subst E;intro ab;refine zX (Ue e) λk E hk hj=>?_;subst E;have ac:jS.take (j+1)=jS.take j++[k]:=qX qW9 (qX hj rfl);have ce:c.opens P k=true->V (some (.str k)) H2:=λh=>ab _ _ ⟨u,by rw[ac,qM1,A6,h,C8];rfl⟩;have no:∀H3,qV MN G H3->c.opens P k=false->V none H3:=λH3 O h=>ab _ _ ⟨O,by rw[ac,qM1,A6,h,C8];rfl⟩;have ae:=u.Ps aa;have t1:jR Z (n+2) (λx=>if x=76 then some g else if x=145 then some m else if x=82 then some J else none) qM (M.one 41 (.str k)) H2 (.val (.R6 .gt (.qA 45 (.qG 145) (.N9 41)) (.R3 (.int 0)))) (!(c.gJ k).isEmpty):=.val (.R6 (.qA (.qG rfl (u.qG _ _ _ g2)) (.N9 rfl) ae (mT hk)) .R3 (cgA some (zG9 _))) rfl;cases hq:(c.gJ k).isEmpty with
  |true=>
   replace t1:=hq▸t1;exact pJ<|dE<|Sr t1<|mR<|mR<|no H2 u (by unfold TT.opens;exact qX hq rfl)
  |false=>
   replace t1:=hq▸t1;refine pJ<|dE<|nF t1<|pJ<|xM<|qE<|vU (.cons (.qG rfl (u.qG _ _ _ g1)) (.cons (.N9 rfl) (.cons (.qG rfl (u.qG _ _ _ g2)) .nil)))<|Yb T (rl:=P.rl) (num:=λk=>((c.gJ k).length:Int)) (u.Ps cc) cd ae (λk hk=>mT hk) hk (qZ _ rfl ?_);show if jT P c k=true then _ else _
   cases R:jT P c k with
   |true=>exact fI<|dA<|fI<|dA<|fI<|(Rd.N9 rfl:Rd Z (n+2) _ qM (M.one 41 (.str k)) H2 (.N9 41) (.str k)) _ (ce (by unfold TT.opens;exact qX hq (qX R rfl)))
   |false=>exact mR<|mR<|no H2 u (by unfold TT.opens;exact qX hq (qX R rfl))
 intro N H2 y3;refine qK y3 λu E=>?_;clear y3;subst E;intro l cf;have O:qV MN G (H2.qQ 55 l ((jS.filter (c.opens P)).map AV.str)):=u.qQ (.inr (u.fr _ cf));refine qZ g rfl (qZ o3 (O.qG _ _ _ g3) ?_);have V:qV MB H ((H2.qQ 55 l ((jS.filter (c.opens P)).map AV.str)).qU 76 g (some (.ref l))):=(K1.trans (O.lE)).qU f3;have g5:((H2.qQ 55 l ((jS.filter (c.opens P)).map AV.str)).qU 76 g (some (.ref l))).qG 76 g=some (some (.ref l)):=qS ..;have g4:((H2.qQ 55 l ((jS.filter (c.opens P)).map AV.str)).qU 76 g (some (.ref l))).qG 82 J=some (some (.ref P.rules)):=pM (O.qG _ _ _ g1);have g6:((H2.qQ 55 l ((jS.filter (c.opens P)).map AV.str)).qU 76 g (some (.ref l))).qG 145 m=some (some (.ref d)):=pM (O.qG _ _ _ g2);have g7:((H2.qQ 55 l ((jS.filter (c.opens P)).map AV.str)).qU 76 g (some (.ref l))).lst 55 l=some ((jS.filter (c.opens P)).map AV.str):=qW ..;have I2:wP P c ((H2.qQ 55 l ((jS.filter (c.opens P)).map AV.str)).qU 76 g (some (.ref l))):=(I1.keep (O.lE)).qG;show O6 Z (n+2) _ qM _ _ _ ((H2.qQ 55 l ((jS.filter (c.opens P)).map AV.str)).qU 76 g (some (.ref l)));generalize (H2.qQ 55 l ((jS.filter (c.opens P)).map AV.str)).qU 76 g (some (.ref l))=G2 at V g4 g5 g6 g7 I2⊢;refine jV<|xM<|kU<|rd (.qG rfl g5)<|wO λz hz=>qZ _ ((gO (qT g7) (qW ..)).trans (uN _)) (qZ _ rfl ?_);have K3:=V.qQ (C:=56) (a:=z) (f:=[]) (.inr (V.fr _ hz));have I3:=I2.keep (qV.refl.qQ (C:=56) (a:=z) (f:=[]) (.inr hz));cases A:jS.find? (c.opens P) with
 |none=>
  have af:jS.filter (c.opens P)=[]:=by rw[<-zZ0] at A;exact List.head?_eq_none_iff.mp A
  have B:c.next P=none:=by unfold TT.next;exact qX A rfl
  refine qX (af) ?_;refine fI<|Uf<|kr _ _ _ (q _ ?_ K3);exact qX (C6 (hs)) (qX (xQ B) (I3))
 |some k0=>
  obtain⟨ks,ag⟩:∃ks,jS.filter (c.opens P)=k0::ks:=by
   rw[<-zZ0] at A;cases R:jS.filter (c.opens P) with
   |nil=>rw[R] at A;cases A
   |cons x r=>rw[R] at A;cases A;exact yU r rfl
  have S:c.opens P k0=true:=List.find?_some A;obtain⟨a,as,has⟩:∃a as,c.gJ k0=a::as:=by
   cases R:c.gJ k0 with
   |nil=>unfold TT.opens at S;rw[R] at S;cases S
   |cons a as=>exact Jj a as rfl
  have B:c.next P=some a:=by unfold TT.next;refine qX A ?_;show(c.gJ k0).head?=_;exact qX has rfl
  have X:=vO B;have cg:a.name=k0:=(Ua (has▸T3)).2;refine qX (ag) ?_;replace g7:=ag▸g7;refine mR<|qP ?_;have g8:(G2.qQ 56 z []).lst 55 l=some ((k0::ks).map AV.str):=qT g7;have g9:(G2.qQ 56 z []).qG 76 g=some (some (.ref l)):=g5;have ah:(G2.qQ 56 z []).qG 82 J=some (some (.ref P.rules)):=g4;have bb:(G2.qQ 56 z []).qG 145 m=some (some (.ref d)):=g6;generalize G2.qQ 56 z []=G3 at K3 I3 g8 g9 ah bb⊢;refine wV I3.bk λlb bl bc Wb E=>zX E λps o bd Y=>?_;clear E;have be:ps.length<1000000:=by
   have e:ps.length=c.asks.length:=by rw[<-Y,S6]
   lia
  have ch:((ps.map (·.2)).map (·.zZ)).Nodup:=qX Y W'.nodup;have da:∀p∈ps,p.2.zZ=a.zZ->p.2=a:=λp o e=>W'.once a X p.2 (Y▸qZ1 o) e;refine xF<|W5<|Yi (λp:Addr×Ask=>[.int p.2.zZ,.str p.2.name]) (λp=>if p.2.name=k0 then some (.int p.2.zZ) else none) (.qA (.N9 U) .R3 bc Wb.N7) o be (λp o=>⟨bd p o,rfl⟩) (λp o=>?_) λb hb=>rd .R3 (qZ b rfl (qZ _ (qW ..) (qZ 0 rfl (qZ (.int a.zZ) (by rw[Tu,Y];show uC ((c.gJ k0).map λa=>AV.int a.zZ) 0=_;exact qX has rfl) ?_))))
  ·by_cases e:p.2.name=k0
   ·exact .inl (zU _ (A3 e) (.yC (.val (.R6 (.N9 rfl) (.wZ (.qG rfl g9) .R3 g8 rfl) (cgA some (dct e))) rfl) .uK) (.N9 rfl))
   ·exact .inr ⟨D9 e,.vY (.val (.R6 (.N9 rfl) (.wZ (.qG rfl g9) .R3 g8 rfl) (cgA some (dcf e))) rfl)⟩
  have s:qV MN G3 (G3.qQ 57 b (ps.filterMap λp=>if p.2.name=k0 then some (.int p.2.zZ) else none)):=qV.refl.qQ (.inr hb);generalize G3.qQ 57 b (ps.filterMap λp=>if p.2.name=k0 then some (.int p.2.zZ) else none)=G4 at s⊢;have K4:=K3.trans (s.lE);have I4:=I3.keep (s.lE);have w:=s.Ps bc;refine vV<|Dh (.qA (.N9 U) .R3 w Wb.N7) (s.zS o)<|Zr (Wn.cons (.N9 rfl) (.cons (.wZ (.qG rfl (s.qG _ _ _ g9)) .R3 (s.zS g8) rfl) .nil)) (Nat.le_of_ble_eq_true rfl) λt db=>qZ _ (s.zS o) (qZ t rfl (zU _ (zN ..) (by rw[S6];exact be) ?_));have q5:qV MN G4 (G4.zQ t [.int a.zZ,.str k0]):=qV.refl.zQ db;have bf:∀p∈ps,(G4.zQ t [.int a.zZ,.str k0]).tup p.1=some [.int p.2.zZ,.str p.2.name]:=λp o=>(s.trans q5).tup _ _ (bd p o);obtain⟨j,hj,dc⟩:=zV6 (H:=G4.zQ t [.int a.zZ,.str k0]) (us:=[.int a.zZ,.str k0]) (a:=a) (by rw[cg]) bf da ch (by rw[<-Y] at X;obtain⟨p,o,e⟩:=T8.mp X;exact qZ p o e);refine qZ j hj ?_;show O6 _ _ _ _ _ _ _ (St.qQ _ 50 bl (List.eraseIdx _ j));refine qX (dc) ?_;have q6:qV {ml:=[50],ms:=[49]} G4 ((G4.zQ t [.int a.zZ,.str k0]).qQ 50 bl ((ps.filter λp=>p.2.zZ≠a.zZ).map λp=>AV.ref p.1)):=(q5.lE).zY;have I6:wP P (c.drop a.zZ) ((G4.zQ t [.int a.zZ,.str k0]).qQ 50 bl ((ps.filter λp=>p.2.zZ≠a.zZ).map λp=>AV.ref p.1)):=I4.Kx (ps:=ps.filter λp=>p.2.zZ≠a.zZ) q6 w Wb (qW ..) (λp o=>bf p (T6.mp o).1) (qX Kw (qX Y rfl));have F:((G4.zQ t [.int a.zZ,.str k0]).qQ 50 bl ((ps.filter λp=>p.2.zZ≠a.zZ).map λp=>AV.ref p.1)).sd 49 P.bk=some lb:=w;have K6:=K4.trans (q6.lE);have bg:=q6.qG _ _ _ (s.qG _ _ _ ah);have bh:=q6.qG _ _ _ (s.qG _ _ _ bb);have ca:=q6.qG _ _ _ (s.qG _ _ _ g9);generalize (G4.zQ t [.int a.zZ,.str k0]).qQ 50 bl ((ps.filter λp=>p.2.zZ≠a.zZ).map λp=>AV.ref p.1)=G6 at q6 I6 F K6 bg bh ca⊢;refine mN (.qA (.N9 U) .R3 F Wb.to) I6.bt (.N9 rfl) (by rw[S6];show c.told.length<_;lia) ?_;have el:((c.drop a.zZ).told.map λ(i:Nat)=>AV.int (i:Int))++[AV.int (a.zZ:Int)]=(c.told++[a.zZ]).map λ(i:Nat)=>AV.int (i:Int):=qX C8 rfl;refine qX (el) ?_;have I7:=I6.bE (ns:=c.told++[a.zZ]);have K7:=K6.zY (C:=58) (a:=P.bt) (f:=(c.told++[a.zZ]).map λ(i:Nat)=>AV.int (i:Int));refine vV<|qE<|qR<|rd (.N9 U)<|qR<|rd (.N9 rfl)<|qR<|uM λy hy=>vU .nil ?_;have I8:=I7.keep (qV.refl.zQ (f:=[.str 101]) hy);have q8:qV MB G6 ((G6.qQ 58 P.bt ((c.told++[a.zZ]).map λ(i:Nat)=>AV.int (i:Int))).zQ y [.str 101]):=(qV.refl.zY).zQ ((bS ..).mp hy).1;have de:=fQ X;obtain⟨k,rfl⟩:∃k',k=k'+1:=yU (k-1) (by lia);obtain⟨k,rfl⟩:∃k',k=k'+1:=yU (k-1) (by lia);refine W4 T I8 (D a X) (x:=.called) (qZ y rfl (zN ..)) λH9 I9 k9=>qP (kn (k+1) _ _ (Nat.lt_succ_self _) ⟨U,(q8.trans (k9.lE)).qG _ _ _ bg,_,(q8.trans (k9.lE)).qG _ _ _ bh,_,(q8.trans (k9.lE)).qG _ _ _ ca,(K6.trans q8).trans (k9.lE),c.served a,I9,Wf.served W' X,λb hb=>D b (T6.mp hb).1,?_,by lia,?_⟩)
  ·show(c.told++[a.zZ]).length+_<_;refine qX E8 ?_;simp only[qZ3];lia
  ·exact qX (C6 (hs)) ((xI B).symm)
end
theorem zJ2(h:Rd Z n F R m H x (.ref a))(b:H.tup a=some [v1,v2,v3])(q:O6 Z n F R r (up (up (up m k1 v1) k2 v2) k3 v3) Q H):O6 Z n F R (.cons (.R7 (.F4 [(false,k1),(false,k2),(false,k3)]) x) r) m Q H:=h _ ⟨a,rfl,_,b,rfl,q⟩
section
variable{P:xZ}{τ:TT}
theorem wP.jK(h:wP P τ H)(hi:i<P.n)(m:H.lst 54 P.ba=some as)(k:gY H.tup x a):wP P (τ.jK i x) (H.qQ 54 P.ba (as.set i a)) where
 bk:=by
  refine wV h.bk λl bl a b n=>zX n λo c d e=>?_;exact xO l bl a b (zU o (qT c) d e)
 bs:=(qT h.bs).trans (cgA some (D6 λj _=>by unfold TT.jK;rw[yG];by_cases e:j=i<;>simp[e]))
 bu:=(qT h.bu).trans (cgA some (D6 λj _=>by unfold TT.jK;rw[yG];by_cases e:j=i<;>simp[e]))
 ba:=by
  refine zX h.ba λp r f s=>?_;obtain rfl:=sj m r;refine zU _ (qW ..) (qX qR8 f) (λj g=>?_);unfold TT.jK;rw[yG];by_cases e:j=i
  ·subst e;rw[A3 rfl];exact qZ a (by rw[qG4 (by rw[f];exact g)]) k
  ·rw[D9 e];refine qY (s j g) λy t u=>?_;exact qZ y (qX (qF7 (λq=>e q.symm)) t) u
 bi:=(qT h.bi).trans (cgA some (D6 λj _=>by unfold TT.jK;rw[yG];by_cases e:j=i<;>simp[e]))
 bt:=qT h.bt
theorem W6(i k:Nat)(v:AV)(c:Addr)(num:Int):(τ.yD i).rest i k v c num=({τ with asks:=τ.asks++[⟨i,k,c,num⟩]}:TT).xH i ⟨.zL,Wy τ.time v,.none,(τ.t i).ab⟩:=by
 unfold TT.rest TT.yD;rw[nM];exact uL (cgA TT.t (nH i _ _)) rfl
theorem W7(b:(τ.t i).st=.ready)(a:(τ.t i).wake=none):τ.hit i=({τ with told:=τ.told++[i]}:TT).jK i .called:=by
 refine uL ?_ rfl;funext j
 show(if j=i then(⟨.ready,none,.called,(τ.t i).ab⟩:lQ) else τ.t j)=if j=i then({τ.t i with fS:=.called}:lQ) else τ.t j
 exact qX (C6 (b)) (qX (C6 (a)) rfl)
end
section
variable{Z:Ctx}{P:xZ}{τ:TT}
theorem Nw(T:Z.xR)(I:wP P τ H)(W:τ.Wf P)(hn:P.n≤4)(v:∀a∈τ.asks,a.zZ<P.n)(hN:τ.told.length+τ.asks.length<900)(hR:fJ P H){i k:Nat}(hi:i<P.n)(L:(τ.t i).st=.ready){R:Addr}{w:Nat}{wv:AV}(hw:sO wv)(O:H.tup R=some [.str w,.str k,wv])(hk:k∈jS)(c:Addr)(num:Int)
  (q:∀H',wP P (τ.tQ P i k wv c num) H'->qV MB H H'->Q .none H'):qB Z (n+4) 631 [.ref P.bk,.ref P.rules,.int i,.ref R] H Q qM:=by
 refine qY hR.ex λrl ac ae=>?_;have af:(τ.t i).wake=none:=W.woke i hi (qX L (λh=>nomatch h)) (qX L (λh=>nomatch h));have F:(0:Int)≤i:=Int.natCast_nonneg i;have fin:∀(m:M)(b:TT)(H2:St),m 25=some (.ref P.bk)->m 82=some (.ref P.rules)->b.zJ P 4=τ.tQ P i k wv c num->b.Wf P->(∀a∈b.asks,a.zZ<P.n)->b.told.length+b.asks.length<1000->wP P b H2->qV MB H H2->O6 Z (n+3) (λ_=>none) qM (.cons (.expr (.call (.R5 250 (.ref 624)) (.cons (.N9 25) (.cons (.N9 82) .nil)))) .nil) m (lP Q) H2:=λm b H2 s S e W2 U ag I2 k2=>
  zA (.cons (.N9 s) (.cons (.N9 S) .nil))<|cP T I2 W2 U ag (hR.keep k2 (by decide)) λH3 B k3=>qP (q H3 (e▸B) (k2.trans k3))
 refine uI T (dR T) rfl<|zJ2 (.N9 rfl) O<|jV<|xM<|qE<|qR<|rd (.N9 rfl)<|qR<|rd (.N9 rfl)<|qR<|qE<|vU (.cons (.N9 rfl) .nil)<|fY T I (Nat.lt_of_le_of_lt W.len (by decide)) λd H1 k1 hd=>vU .nil<|Yb T (rl:=P.rl) (num:=λk=>((τ.gJ k).length:Int)) (k1.Ps ac) ae hd (λk hk=>mT hk) hk (qZ _ rfl ?_);have J:=I.keep (k1.lE);have K1:=k1.le (N:=MB) (by decide);refine wV J.bk λl bl E u K=>zX K λps D ah ea=>?_;clear K;refine zX J.ba λas g V _=>?_;have z:(i:Int)<as.length:=by rw[V];lia
 show if jT P τ k=true then _ else _
 cases hh:jT P τ k with
 |true=>
  refine fI<|mN (.qA (.N9 rfl) .R3 E u.to) J.bt (.N9 rfl) (by rw[S6];lia) ?_;have el:(τ.told.map λ(i:Nat)=>AV.int (i:Int))++[AV.int (i:Int)]=(τ.told++[i]).map λ(i:Nat)=>AV.int (i:Int):=qX C8 rfl;refine qX (el) ?_;have I2:=J.bE (ns:=τ.told++[i]);have K2:=K1.zY (C:=58) (a:=P.bt) (f:=(τ.told++[i]).map λ(i:Nat)=>AV.int (i:Int));have X:(H1.qQ 58 P.bt ((τ.told++[i]).map λ(i:Nat)=>AV.int (i:Int))).sd 49 P.bk=some l:=E;have j:(H1.qQ 58 P.bt ((τ.told++[i]).map λ(i:Nat)=>AV.int (i:Int))).lst 54 P.ba=some as:=qT g;generalize H1.qQ 58 P.bt ((τ.told++[i]).map λ(i:Nat)=>AV.int (i:Int))=G at I2 K2 X j⊢;refine eX<|uM λy A=>rd (.qA (.N9 rfl) .R3 X u.an)<|rd (.N9 rfl) (qZ _ rfl (qZ as j (rE (i:Int) rfl F z (qP ?_))));rw[Int.toNat_natCast];have B:=(I2.keep (qV.refl.zQ (f:=[.str 101]) A)).jK hi (x:=.called) (a:=.ref y) j (qZ y rfl (zN ..));have B:wP P (({τ with told:=τ.told++[i]}:TT).jK i .called) _:=B;rw[<-W7 L af] at B;refine fin _ (τ.hit i) _ rfl rfl ?_ (Wf.hit W hi L) v ?_ B ((K2.zQ (K2.fr _ A)).zY)
  ·unfold TT.tQ;rw[A3 hh]
  ·show(τ.told++[i]).length+τ.asks.length<_;refine qX E8 ?_;simp only[qZ3];lia
 |false=>
  have eA:((τ.yD i).queue i k wv c num).zJ P 4=τ.tQ P i k wv c num:=by unfold TT.tQ;rw[D9 (by rw[hh];exact Bool.false_ne_true)]
  have W2:((τ.yD i).queue i k wv c num).Wf P:=Wf.queue W hi hn v L hk;refine mR ?_;have Y:∀(x:Ev)(m:M)(y:Addr),x≠.none->(τ.yD i).queue i k wv c num=τ.jK i x->m 25=some (.ref P.bk)->m 82=some (.ref P.rules)->qD H1 y->O6 Z (n+3) (λ_=>none) qM (.cons (.expr (.call (.R5 250 (.ref 624)) (.cons (.N9 25) (.cons (.N9 82) .nil)))) .nil) m (lP Q) ((H1.zQ y [.str x.code]).qQ 54 P.ba (as.set i (.ref y))):=λx m y hx e s S A=>by
   have B:=(J.keep (qV.refl.zQ (f:=[.str x.code]) A)).jK hi (x:=x) (a:=.ref y) g (Tj hx (zN ..));refine fin m _ _ s S eA W2 (qX e v) (by rw[e];show τ.told.length+τ.asks.length<_;lia) (qX e B) ((K1.zQ (K1.fr _ A)).zY)
  have rest:∀m:M,m 25=some (.ref P.bk)->m 82=some (.ref P.rules)->m 19=some (.int i)->m 41=some (.str k)->m 56=some wv->(wv=.none∨∃w,wv=.int w∧0<w)->(τ.yD i).queue i k wv c num=(τ.yD i).rest i k wv c num->
    O6 Z (n+3) (λ_=>none) qM (.cons (.expr (.append 50 (.qA 49 (.N9 25) (.R3 (.str 23))) (.tup (.cons (.N9 19) (.cons (.N9 41) .nil))))) (.cons (.R7 (.wZ 52 (.qA 49 (.N9 25) (.R3 (.str 86))) (.N9 19)) (.R3 (.str 23))) (.cons (.R7 (.wZ 53 (.qA 49 (.N9 25) (.R3 (.str 92))) (.N9 19)) (.ite (.val (.R6 .By (.N9 56) (.R3 .none))) (.R3 .none) (.bin .add (.qA 49 (.N9 25) (.R3 (.str 53))) (.N9 56)))) (.cons (.R7 (.wZ 54 (.qA 49 (.N9 25) (.R3 (.str 99))) (.N9 19)) (.R3 .none)) .nil))))
     m (λfl m' H'=>match fl with|.next=>O6 Z (n+3) (λ_=>none) qM (.cons (.expr (.call (.R5 250 (.ref 624)) (.cons (.N9 25) (.cons (.N9 82) .nil)))) .nil) m' (lP Q) H'|fl=>lP Q fl m' H') H1:=λm s S m3 m4 m5 hv e=>by
   have bb:ps.length<1000000:=by
    have e:ps.length=τ.asks.length:=by rw[<-ea,S6]
    lia
   refine vV<|Q7 (.qA (.N9 s) .R3 E u.N7) D<|Zr (Wn.cons (.N9 m3) (.cons (.N9 m4) .nil)) (Nat.le_of_ble_eq_true rfl) λt ht=>zU _ D (by rw[S6];exact bb) ?_;have q5:qV MN H1 (H1.zQ t [.int i,.str k]):=qV.refl.zQ ht;have q6:qV {ml:=[50],ms:=[49]} H1 ((H1.zQ t [.int i,.str k]).qQ 50 bl ((ps.map λp=>AV.ref p.1)++[.ref t])):=(q5.lE).zY;have I6:wP P {τ with asks:=τ.asks++[⟨i,k,c,num⟩]} ((H1.zQ t [.int i,.str k]).qQ 50 bl ((ps.map λp=>AV.ref p.1)++[.ref t])):=by
    refine J.Kx (ps:=ps++[(t,⟨i,k,c,num⟩)]) q6 E u ((qW ..).trans (by rw[C8];rfl)) (λp D=>?_) (by rw[C8,ea];rfl);rcases A4.mp D with D|D
    ·exact q5.tup _ _ (ah p D)
    ·obtain rfl:=B7.mp D;exact zN ..
   have o:((H1.zQ t [.int i,.str k]).qQ 50 bl ((ps.map λp=>AV.ref p.1)++[.ref t])).sd 49 P.bk=some l:=E;have r:=q6.zS g;have K6:=K1.trans (q6.lE);generalize (H1.zQ t [.int i,.str k]).qQ 50 bl ((ps.map λp=>AV.ref p.1)++[.ref t])=G at I6 o r K6⊢;have n1:(i:Int)<(((B4 P.n).map λi=>AV.str (τ.t i).st.bcode).length:Int):=by simp;exact hi
   have n2:(i:Int)<(((B4 P.n).map λi=>dS (τ.t i).wake).length:Int):=by simp;exact hi
   have ru:∀G',G'.sd 49 P.bk=some l->Rd Z (n+3) (λ_=>none) qM m G' (.ite (.val (.R6 .By (.N9 56) (.R3 .none))) (.R3 .none) (.bin .add (.qA 49 (.N9 25) (.R3 (.str 53))) (.N9 56))) (dS (Wy τ.time wv)):=λG' hG=>by
    rcases hv with rfl|y1
    ·exact .P4 (.val (.R6 (.N9 m5) .R3 rfl) rfl) .R3
    ·refine qY y1 λw K aa=>?_;clear y1;subst K;refine .iteF (.val (.R6 (.N9 m5) .R3 rfl) rfl) (.bin (.qA (.N9 s) .R3 hG u.ti) (.N9 m5) ?_);exact qX (Int.max_eq_left (Int.le_of_lt aa)) rfl
   refine yF .R3 (.qA (.N9 s) .R3 o u.st) (.N9 m3) I6.bs F n1<|yF (ru _ o) (.qA (.N9 s) .R3 o u.un) (.N9 m3) (qT I6.bu) F n2<|yF .R3 (.qA (.N9 s) .R3 o u.an) (.N9 m3) (qT (qT r)) F z<|qP ?_;rw[Int.toNat_natCast];have I7:=I6.xH (x:=⟨.zL,Wy τ.time wv,.none,(τ.t i).ab⟩) (a:=.none) hi (((qV.refl.zY).zY).zY) r (qT (qT (qW ..))) (qT (qW ..)) (qW ..) rfl rfl;refine fin m ((τ.yD i).queue i k wv c num) _ s S eA W2 (λa ha=>?_) ?_ ?_ (((K6.zY).zY).zY)
   ·replace ha:=e▸ha;rcases A4.mp (show a∈τ.asks++[_] from ha) with ha|ha
    ·exact v a ha
    ·obtain rfl:=B7.mp ha;exact hi
   ·refine qX (e) ?_;show τ.told.length+(τ.asks++[_]).length<_;refine qX E8 ?_;simp only[qZ3];lia
   ·rw[e,W6];exact I7
  have ab:∀(x:Ev),(τ.yD i).queue i k wv c num=(τ.yD i).jK i x->(τ.yD i).queue i k wv c num=τ.jK i x:=λx e=>e.trans (Z8 i x);rcases hw with rfl|rfl|y2
  ·exact vA (.Pt (.val (.R6 (.N9 rfl) .R3 rfl) rfl) (.Pt (.val (.R6 (.N9 rfl) .R3 rfl) rfl) .F7)) (rest _ rfl rfl rfl rfl rfl (.inl rfl) rfl)
  ·refine wI (.Pt (.val (.R6 (.N9 rfl) .R3 rfl) rfl) (.F8 (.val (.R6 (.N9 rfl) .R3 rfl) rfl)))<|eX<|iE (.val (.R6 (.N9 rfl) .R3 rfl) rfl)<|uM λy A=>rd (.qA (.N9 rfl) .R3 E u.an)<|rd (.N9 rfl) (qZ _ rfl (qZ as g (rE (i:Int) rfl F z (qP<|qP ?_))));rw[Int.toNat_natCast];exact Y .refused _ y (λh=>nomatch h) (ab .refused rfl) rfl rfl A
  ·refine zX y2 λw K aa _=>?_;clear y2;subst K;by_cases c0:w=0
   ·refine wI (.F8 (.val (.R6 (.N9 rfl) .R3 (cgA some (dct c0))) rfl))<|eX<|Ud (.val (.R6 (.N9 rfl) .R3 (cgA some (dct c0))) rfl)<|uM λy A=>rd (.qA (.N9 rfl) .R3 E u.an)<|rd (.N9 rfl) (qZ _ rfl (qZ as g (rE (i:Int) rfl F z (qP<|qP ?_))));rw[Int.toNat_natCast];exact Y .yZ _ y (λh=>nomatch h) (ab .yZ (A3 (Int.le_of_eq c0))) rfl rfl A
   ·exact vA (.Pt (.val (.R6 (.N9 rfl) .R3 (cgA some (dcf c0))) rfl) (.Pt (.val (.R6 (.N9 rfl) .R3 rfl) rfl) .F7)) (rest _ rfl rfl rfl rfl rfl (.inr (qZ w rfl (by lia))) (D9 (by lia)))
end
theorem Gc{k:Nat}{c:Addr}{e:X}{b:Ss}{N:Nat}(I:Nat->M->St->Prop)(p:F k=some c)(l:Rd Z n F R m H e (.int N))(y:N<1000)(hi:∀j m' H',I j m' H'->∃o,H'.qG k c=some o)
  (step:∀j m' H' K,j<N->I j m' H'->(∀d f,I (j+1) d f->K .next d f)->O6 Z n F R b m' K (H'.qU k c (some (.int j)))) (h:I 0 m H) (fin:∀m' H',I N m' H'->O6 Z n F R r m' Q H'):O6 Z n F R (.cons (.yM true k .dZ e b) r) m Q H:=by
 refine l _ ⟨N,rfl,Int.natCast_nonneg N,by lia,?_⟩;have e:lY (N:Int)=(B4 N).map λ(i:Nat)=>AV.int i:=by unfold lY;rw[Int.toNat_natCast]
 refine qX (e) ?_;refine nG I (λ_ _ _ _ _=>trivial) (λj v m' H' K g i q _=>?_) (λm' H' i=>fin m' H' (by rw[S6,B9] at i;exact i)) h;rw[D4] at g;refine qY (B8.mp g) λx s t=>?_;subst t;refine zH (C7.mp s) λu a=>?_;rw[qW5] at a;subst a;refine zH (hi j m' H' i) λo w=>?_;exact fI (qZ c p (qZ o w (step j m' H' K (by simpa using u) i q)))
section
variable{P:xZ}{τ:TT}
theorem Pe.asks{bl b:Addr}(h:Pe P t bl l):Pe P t b (qJ9 l 23 (.ref b)):=by
 constructor<;>rw[kE]
 ·exact h.st
 ·exact h.un
 ·exact h.an
 ·exact h.si
 ·exact h.to
 ·exact h.ti
 ·rfl
theorem Pe.time{bl:Addr}(h:Pe P t bl l):Pe P w bl (qJ9 l 53 (.int w)):=by
 constructor<;>rw[kE]
 ·exact h.st
 ·exact h.un
 ·exact h.an
 ·exact h.si
 ·exact h.to
 ·rfl
 ·exact h.N7
noncomputable def TT.Ff(τ:TT)(j:Nat):TT:={τ with t:=λi=>if i<j∧(τ.t i).ab=true then⟨.done,none,(τ.t i).fS,(τ.t i).ab⟩ else τ.t i,asks:=τ.asks.filter λa=>!(decide (a.zZ<j)&&(τ.t a.zZ).ab)}
theorem wF3(τ:TT):τ.Ff 0=τ:=by
 refine uL ?_ (qQ6.mpr λa _=>by simp);funext i;rw[D9];rintro⟨h,_⟩;exact Nat.not_lt_zero i h
theorem wJ8(τ:TT)(j:Nat):(τ.Ff j).t j=τ.t j:=D9 λh=>Nat.lt_irrefl _ h.1
theorem zU5(h:(τ.t j).ab=true):((τ.Ff j).xH j ⟨.done,none,(τ.t j).fS,(τ.t j).ab⟩).drop j=τ.Ff (j+1):=uL (cY (P:=λi=>(τ.t i).ab=true) h) (Zb (b:=λi=>(τ.t i).ab) h)
theorem zD4(h:(τ.t j).ab=false):τ.Ff j=τ.Ff (j+1):=uL (iD (P:=λi=>(τ.t i).ab=true) (ne_true_of_eq_false h)) (Ub (b:=λi=>(τ.t i).ab) h)
theorem Dm(h:wP P (τ.Ff P.n) H)(W:τ.Wf P):wP P (τ.settle P.n) H:=by
 refine h.congr (λi b=>?_) (qP5 λa m=>?_) rfl rfl
 ·show(if i<P.n∧(τ.t i).ab=true then(⟨.done,none,(τ.t i).fS,(τ.t i).ab⟩:lQ) else τ.t i).st.bcode=(if i<P.n∧((τ.sA P.n).t i).st=.qC then{(τ.sA P.n).t i with st:=.done} else(τ.sA P.n).t i).st.bcode∧(if i<P.n∧(τ.t i).ab=true then(⟨.done,none,(τ.t i).fS,(τ.t i).ab⟩:lQ) else τ.t i).wake=(if i<P.n∧((τ.sA P.n).t i).st=.qC then{(τ.sA P.n).t i with st:=.done} else(τ.sA P.n).t i).wake∧(if i<P.n∧(τ.t i).ab=true then(⟨.done,none,(τ.t i).fS,(τ.t i).ab⟩:lQ) else τ.t i).fS=(if i<P.n∧((τ.sA P.n).t i).st=.qC then{(τ.sA P.n).t i with st:=.done} else(τ.sA P.n).t i).fS∧(if i<P.n∧(τ.t i).ab=true then(⟨.done,none,(τ.t i).fS,(τ.t i).ab⟩:lQ) else τ.t i).ab=(if i<P.n∧((τ.sA P.n).t i).st=.qC then{(τ.sA P.n).t i with st:=.done} else(τ.sA P.n).t i).ab;have n:(τ.sA P.n).t i=if(τ.t i).xX=true then(τ.t i).fin else τ.t i:=by
   show(if i<P.n∧(τ.t i).xX=true then(τ.t i).fin else τ.t i)=_;by_cases c:(τ.t i).xX=true
   ·exact qX (A3 ⟨b,c⟩) (qX (A3 c) rfl)
   ·exact qX (D9 (λh=>c h.2)) (qX (D9 c) rfl)
  refine qX (n) ?_;by_cases c:(τ.t i).xX=true
  ·have f:(τ.t i).ab=true:=by
    unfold lQ.xX at c;cases h:(τ.t i).ab with
    |true=>rfl
    |false=>rw[h] at c;cases c
   refine qX (A3 c) (qX (A3 ⟨b,f⟩) (qX (A3 ⟨b,rfl⟩) ?_));exact⟨rfl,rfl,rfl,rfl⟩
  ·refine qX (D9 c) ?_;have j:(τ.t i).st=.qC∨(τ.t i).st=.done->(τ.t i).wake=none:=λh=>W.woke i b (by rcases h with h|h<;>rw[h]<;>exactλq=>nomatch q) (by rcases h with h|h<;>rw[h]<;>exactλq=>nomatch q);by_cases e:(τ.t i).st=.qC
   ·have g:i<P.n∧(τ.t i).st=.qC:=⟨b,e⟩;refine qX (A3 g) ?_;by_cases d:(τ.t i).ab=true
    ·exact qX (A3 ⟨b,d⟩) (⟨rfl,(j (.inl e)).symm,rfl,rfl⟩)
    ·exact qX (D9 (λh=>d h.2)) (qX (e) (⟨rfl,rfl,rfl,rfl⟩))
   ·have g:¬(i<P.n∧(τ.t i).st=.qC):=λh=>e h.2;refine qX (D9 g) ?_;by_cases d:(τ.t i).ab=true
    ·have k:(τ.t i).st=.done:=by
      by_cases l:(τ.t i).st=.done
      ·exact l
      ·exact absurd (by unfold lQ.xX;exact qX d (qX (dcf e) (qX (dcf l) rfl))) c
     exact qX (A3 ⟨b,d⟩) (qX (k) (⟨rfl,(j (.inr k)).symm,rfl,rfl⟩))
    ·exact qX (D9 (λh=>d h.2)) (⟨rfl,rfl,rfl,rfl⟩)
 ·by_cases c:a.zZ<P.n
  ·have o:=(W.call _ c).mpr (qZ a m rfl);have:(τ.t a.zZ).xX=(τ.t a.zZ).ab:=by unfold lQ.xX;refine qX o ?_;simp
   exact qX (this) rfl
  ·exact qX (dcf c) rfl
end
theorem Gd{i:Nat}{o k:Addr}(I:wP P τ H)(t:τ.asks.length<1000)(a:F 25=some o)(d:F 19=some k)(s:H.qG 25 o=some (some (.ref P.bk)))(y:H.qG 19 k=some (some (.int i)))
  (q:∀H',wP P (τ.drop i) H'->qV {ml:=[50],ms:=[49]} H H'->O6 Z n F qM r m Q H'):O6 Z n F qM (.cons (.R7 (.qA 49 (.qG 25) (.R3 (.str 23))) (.zO 50 (.N9 44) (.one 44) (.lst 50) (.qA 49 (.qG 25) (.R3 (.str 23))) (.cons (.val (.R6 .tU (.xS (.N9 44) (.R3 (.int 0))) (.qG 19))) .nil))) r) m Q H:=by
 refine wV I.bk λl bl u W z=>zX z λps c v w=>?_;have f:ps.length<1000000:=by
  have e:ps.length=τ.asks.length:=by rw[<-w,S6]
  lia
 refine Dg<|vH (l:=ps) (g:=λp=>AV.ref p.1) (λp=>if(λp:Addr×Ask=>decide (p.2.zZ≠i)) p=true then some (.ref p.1) else none) (.qA (.qG a s) .R3 u W.N7) c f (λp c=>?_) λb A=>rd (.qG a s)<|rd .R3 (qZ _ rfl (qZ l u (qZ _ rfl ?_)))
 ·have t1:Rd Z n F qM (M.one 44 (.ref p.1)) H (.R6 .tU (.xS (.N9 44) (.R3 (.int 0))) (.qG 19)) (.bool (!decide ((p.2.zZ:Int)=i))):=.R6 (.xS (.N9 rfl) .R3 (v p c) rfl) (.qG d y) rfl;by_cases e:p.2.zZ=i
  ·have j:=dct (cgA Int.ofNat e);replace t1:=j▸t1;exact .inr ⟨D9 (by simp[e]),.vY (.val t1 rfl)⟩
  ·have j:=dcf λh=>e (Int.ofNat.inj h);replace t1:=j▸t1;exact .inl (zU _ (A3 (by simp[e])) (.yC (.val t1 rfl) .uK) (.N9 rfl))
 ·refine qX (Za) ?_;have x:qV {ml:=[50],ms:=[49]} H ((H.qQ 50 b ((ps.filter λp=>decide (p.2.zZ≠i)).map λp=>AV.ref p.1)).xV 49 P.bk (qJ9 l 23 (.ref b))):=(qV.refl.zY).xV (.inl (by decide));exact q _ (I.Kx (ps:=ps.filter λp=>decide (p.2.zZ≠i)) x (xA ..) W.asks (show(H.qQ 50 b _).lst 50 b=_ from qW ..) (λp c=>v p (T6.mp c).1) (qX Kw (qX w rfl))) x
noncomputable abbrev Eu:X:=.qA 49 (.qG 25) (.R3 (.str 86))
noncomputable def Ky:S:=.R7 (.qA 49 (.qG 25) (.R3 (.str 23))) (.zO 50 (.N9 44) (.one 44) (.lst 50) (.qA 49 (.qG 25) (.R3 (.str 23))) (.cons (.val (.R6 .tU (.xS (.N9 44) (.R3 (.int 0))) (.qG 19))) .nil))
noncomputable def zR4(r:Ss):Ss:=.cons (.yM true 19 .dZ (.uX 52 Eu) (.cons (.ite (.val (.wZ 59 (.qA 49 (.qG 25) (.R3 (.str 48))) (.qG 19))) (.cons (.R7 (.wZ 52 Eu (.qG 19)) (.R3 (.str 32))) (.cons (.R7 (.wZ 53 (.qA 49 (.qG 25) (.R3 (.str 92))) (.qG 19)) (.R3 .none)) (.cons Ky .nil))) .nil) .nil)) r
noncomputable def wP4(r:Ss):Ss:=.cons (.yM true 19 .dZ (.uX 52 Eu) (.cons (.ite (.and (.cons (.val (.R6 .fD (.wZ 53 (.qA 49 (.qG 25) (.R3 (.str 92))) (.qG 19)) (.R3 .none))) (.cons (.val (.R6 .le (.wZ 53 (.qA 49 (.qG 25) (.R3 (.str 92))) (.qG 19)) (.qA 49 (.qG 25) (.R3 (.str 53))))) .nil))) (.cons (.expr (.call (.R5 174 (.ref 619)) (.cons (.qG 25) (.cons (.qG 19) (.cons (.ite (.val (.R6 .uO (.wZ 52 Eu (.qG 19)) (.R3 (.str 23)))) (.tup (.cons (.R3 (.str 35)) .nil)) (.R3 .none)) .nil))))) (.cons Ky .nil)) .nil) .nil)) r
noncomputable def wP9(r:Ss):Ss:=.cons (.expr (.call (.R5 250 (.ref 624)) (.cons (.qG 25) (.cons (.N9 82) .nil)))) (.cons (.R7 (.N9 81) (.zO 60 (.N9 4) (.one 4) .dZ (.uX 52 Eu) (.cons (.val (.R6 .uO (.wZ 52 Eu (.N9 4)) (.R3 (.str 81)))) .nil))) (.cons (.ite (.val (.R6 (.Ay 60 61) (.N9 81) (.list 61 .nil))) (.cons (.ret (.N9 81)) .nil) .nil) r))
noncomputable def wL7(r:Ss):Ss:=.cons (.ite (.val (.R6 (.iU 62 61) (.zO 62 (.N9 40) (.one 40) (.lst 52) Eu (.cons (.val (.R6 .tU (.N9 40) (.R3 (.str 32)))) .nil)) (.list 61 .nil))) (.cons (.ret (.R3 (.str 43))) .nil) .nil) (.cons (.R7 (.N9 31) (.zO 63 (.N9 53) (.one 53) (.lst 53) (.qA 49 (.qG 25) (.R3 (.str 92))) (.cons (.val (.R6 .fD (.N9 53) (.R3 .none))) .nil))) (.cons (.ite (.val (.R6 (.iU 63 61) (.N9 31) (.list 61 .nil))) (.cons (.ret (.R3 (.str 88))) .nil) .nil) (.cons (.R7 (.qA 49 (.qG 25) (.R3 (.str 53))) (.max2 (.qA 49 (.qG 25) (.R3 (.str 53))) (.Jn 63 (.N9 31)))) r)))
theorem Dn:pY=.cons (.Jr (.val (.R3 (.bool true))) (zR4 (wP9 (wL7 (wP4 .nil))))) .nil:=rfl
structure TC(P:xZ)(H0:St)(c1 c2:Addr)(H:St):Prop where
 book:H.qG 25 c1=some (some (.ref P.bk))
 zZ:∃o,H.qG 19 c2=some o
 keep:qV MB H0 H
theorem TC.step(h:TC P H0 c1 c2 H)(k:qV MB H H'):TC P H0 c1 c2 H':=⟨k.qG _ _ _ h.book,zH h.zZ λo e=>⟨o,k.qG _ _ _ e⟩,h.keep.trans k⟩
theorem TC.setW(h:TC P H0 c1 c2 H)(a:qD H0 c2):TC P H0 c1 c2 (H.qU 19 c2 v):=⟨pM h.book,⟨_,qS ..⟩,h.keep.qU a⟩
noncomputable abbrev tF(c1 c2:Addr):Fm:=λx=>if x=19 then some c2 else if x=25 then some c1 else none
theorem Wj(a:j<k):uC ((B4 k).map g) (j:Int)=some (g j):=by
 unfold uC;rw[D9 (by lia),A3 (Int.natCast_nonneg j),Int.toNat_natCast,D4,qJ6 a];rfl
theorem W8(I:wP P τ H)(W:τ.Wf P)(hn:P.n≤4)(C:TC P H0 c1 c2 H)(U:qD H0 c2)(q:∀m' H',(∀k,k∈[82]->m' k=m k)->wP P (τ.settle P.n) H'->TC P H0 c1 c2 H'->O6 Z n (tF c1 c2) qM r m' Q H'):O6 Z n (tF c1 c2) qM (zR4 r) m Q H:=by
 refine wV I.bk λl bl f g _=>?_;have V:Rd Z n (tF c1 c2) qM m H (.uX 52 Eu) (.int P.n):=by
  have:=Rd.uX (Z:=Z) (n:=n) (F:=tF c1 c2) (R:=qM) (m:=m) (.qA (.qG rfl C.book) .R3 f g.st) I.bs;rw[S6,B9] at this;exact this
 refine Gc (λj m' H'=>m'=m∧wP P (τ.Ff j) H'∧TC P H0 c1 c2 H') rfl V (by lia) (λj m' H' h=>h.2.2.zZ) ?_ ⟨rfl,by rw[wF3];exact I,C⟩ λm' H' X=>wH X λe B D=>q m' H' (by rw[e];exactλ_ _=>rfl) (Dm B W) D;intro j m' H' K z J;refine wH J λY B D=>?_;clear J;subst Y;intro L;have c:wP P (τ.Ff j) (H'.qU 19 c2 (some (.int j))):=B.qG;have d:=D.setW U (v:=some (.int j));have o:(H'.qU 19 c2 (some (.int j))).qG 19 c2=some (some (.int j)):=qS ..;generalize H'.qU 19 c2 (some (.int j))=G at c d o⊢;refine wV c.bk λl bl f g _=>?_;have M:=wJ8 τ j;have p:Rd Z n (tF c1 c2) qM m' G (.wZ 59 (.qA 49 (.qG 25) (.R3 (.str 48))) (.qG 19)) (.bool ((τ.Ff j).t j).ab):=.wZ (.qA (.qG rfl d.book) .R3 f g.si) (.qG rfl o) c.bi (Wj z);rw[M] at p;cases b:(τ.t j).ab with
 |false=>rw[b] at p;exact wW (.val p rfl)<|qP (L _ _ ⟨rfl,qX (C6 (zD4 b)) c,d⟩)
 |true=>
  rw[b] at p;refine zX c.ba λas s t u=>qY (u j z) λy hy hA=>?_;have N:=Int.natCast_nonneg j;have n1:(j:Int)<(((B4 P.n).map λi=>AV.str ((τ.Ff j).t i).st.bcode).length:Int):=by rw[S6,B9];lia
  have n2:(j:Int)<(((B4 P.n).map λi=>dS ((τ.Ff j).t i).wake).length:Int):=by rw[S6,B9];lia
  refine wI (.val p rfl)<|yF .R3 (.qA (.qG rfl d.book) .R3 f g.st) (.qG rfl o) c.bs N n1<|yF .R3 (.qA (.qG rfl d.book) .R3 f g.un) (.qG rfl o) (qT c.bu) N n2 ?_;rw[Int.toNat_natCast];have A:qV {ml:=[52,53,54]} G ((G.qQ 52 P.bs (((B4 P.n).map λi=>AV.str ((τ.Ff j).t i).st.bcode).set j (.str 32))).qQ 53 P.bu (((B4 P.n).map λi=>dS ((τ.Ff j).t i).wake).set j .none)):=(qV.refl.zY).zY;have w:as.set j y=as:=by
   apply List.ext_getElem?
   intro i;by_cases e:j=i
   ·subst e;rw[qG4 (by rw[t];exact z),hy]
   ·exact qX (qF7 e) rfl
  have O:=c.xH (x:=⟨.done,none,((τ.Ff j).t j).fS,((τ.Ff j).t j).ab⟩) (a:=y) z A s (qT (qW ..)) (qW ..) (by rw[w];exact qT (qT s)) (hA.keep A) rfl;have S:=d.step (A.lE);have E:=A.qG _ _ _ o;rw[M] at O;refine Gd O (Nat.lt_of_le_of_lt (Nat.le_trans (E9 ..) W.len) (by decide)) rfl rfl S.book E λH3 T k3=>qP<|qP (L _ _ ⟨rfl,?_,S.step (k3.lE)⟩);rw[zU5 b] at T;exact T
theorem Ge(x:Pb):U5 (.str x.bcode) (.str 81)=some (decide (x=.ready)):=by cases x<;>rfl
theorem Wv(x:Pb):U5 (.str x.bcode) (.str 23)=some (decide (x=.zL)):=by cases x<;>rfl
theorem Nx(x:Pb):lB .tU (.str x.bcode) (.str 32) H=some (!decide (x=.qC∨x=.done)):=by cases x<;>rfl
noncomputable def W9(ws:List (Option Int)):List Int:=ws.filterMap id
theorem Dr:∀(ws:List (Option Int)),qY7 ws=(W9 ws).min?:=by
 have d:∀(ws:List (Option Int))(a:Int),ws.foldl dT (some a)=some ((W9 ws).foldl min a):=by
  intro ws;induction ws with
  |nil=>intro a;rfl
  |cons x r b=>
   intro a;cases x with
   |none=>exact b a
   |some w=>
    show r.foldl dT (if w<a then some w else some a)=some ((W9 r).foldl min (min a w));by_cases c:w<a
    ·rw[A3 c,b,Int.min_eq_right (Int.le_of_lt c)]
    ·rw[D9 c,b,Int.min_eq_left (Int.not_lt.mp c)]
 intro ws;induction ws with
 |nil=>rfl
 |cons x r b=>
  cases x with
  |none=>exact b
  |some w=>exact(d r w).trans rfl
theorem Tk:∀(ws:List Int),(ws.map AV.int).mapM it=some ws
 |[]=>rfl
 |w::r=>qX B6 (qX qL8 (qX (Tk r) rfl))
theorem zR0(T:Z.xR)(I:wP P τ H)(W:τ.Wf P)(N:P.n≤4)(k:∀a∈τ.asks,a.zZ<P.n)(B:τ.told.length+τ.asks.length<1000)(C:TC P H0 c1 c2 H)(A:fJ P H0)(s:m 82=some (.ref P.rules))
  (q:(τ.zJ P 4).zB P.n≠[]->∀b m' H',wP P (τ.zJ P 4) H'->TC P H0 c1 c2 H'->H'.lst 60 b=some (((τ.zJ P 4).zB P.n).map λ(i:Nat)=>.int i)->Q (.ret (.ref b)) m' H')
  (t:(τ.zJ P 4).zB P.n=[]->∀m' H',m' 82=some (.ref P.rules)->wP P (τ.zJ P 4) H'->TC P H0 c1 c2 H'->O6 Z (n+3) (tF c1 c2) qM r m' Q H'):O6 Z (n+3) (tF c1 c2) qM (wP9 r) m Q H:=by
 refine zA (.cons (.qG rfl C.book) (.cons (.N9 s) .nil))<|cP T I W k B (A.keep C.keep (by decide)) λc f D=>?_;have o:=C.step D;generalize τ.zJ P 4=τ1 at f q t;refine wV f.bk λl bl u v _=>?_;have E:Rd Z (n+3) (tF c1 c2) qM m c (.uX 52 Eu) (.int P.n):=by
  have:=Rd.uX (Z:=Z) (n:=n+3) (F:=tF c1 c2) (R:=qM) (m:=m) (.qA (.qG rfl o.book) .R3 u v.st) f.bs;rw[S6,B9] at this;exact this
 refine xF<|Dy (λi=>if τ1.F9 i=true then some (.int i) else none) E (by lia) (λi J=>?_) λb K=>?_
 ·have g:Rd Z (n+3) (tF c1 c2) qM (M.one 4 (.int i)) c (.R6 .uO (.wZ 52 Eu (.N9 4)) (.R3 (.str 81))) (.bool (τ1.F9 i)):=.R6 (.wZ (.qA (.qG rfl o.book) .R3 u v.st) (.N9 rfl) f.bs (Wj J)) .R3 (Ge _);cases h:τ1.F9 i with
  |true=>rw[h] at g;exact .inl (zU _ (A3 rfl) (.yC (.val g rfl) .uK) (.N9 rfl))
  |false=>rw[h] at g;exact .inr ⟨D9 Bool.false_ne_true,.vY (.val g rfl)⟩
 ·refine qX (Za) ?_;have p:qV MN c (c.qQ 60 b ((τ1.zB P.n).map λ(i:Nat)=>AV.int i)):=qV.refl.qQ (.inr K);have d:(c.qQ 60 b ((τ1.zB P.n).map λ(i:Nat)=>AV.int i)).lst 60 b=some ((τ1.zB P.n).map λ(i:Nat)=>AV.int i):=qW ..;show O6 Z (n+3) _ qM _ _ _ (c.qQ 60 b ((τ1.zB P.n).map λ(i:Nat)=>AV.int i));generalize c.qQ 60 b ((τ1.zB P.n).map λ(i:Nat)=>AV.int i)=G at p d⊢;refine jV<|xM<|kU<|rd (.N9 rfl)<|wO λz L=>qZ _ ((i6 (qT d) (qW ..)).trans (by rw[uN];rfl)) (qZ _ rfl ?_);have w:qV MN c (G.qQ 61 z []):=p.qQ (.inr (p.fr _ L));have x:=f.keep (w.lE);have y:=o.step (w.lE);by_cases j:τ1.zB P.n=[]
  ·refine qX (j) ?_;exact mR<|qP (t j _ _ s x y)
  ·have e:(!decide ((τ1.zB P.n).map (λ(i:Nat)=>AV.int i)=[]))=true:=qX (dcf λh=>j (qJ7.mp h)) rfl;refine qX (e) ?_;exact fI<|wB (.N9 rfl) (q j b _ _ x y (qT d))
theorem wV4(I:wP P τ H)(W:qP7 P.n τ)(hn:P.n≤4)(C:TC P H0 c1 c2 H)(V:m 82=some (.ref P.rules))
  (X:τ.yN P.n=[]->∀m' H',wP P τ H'->TC P H0 c1 c2 H'->Q (.ret (.str 43)) m' H')
  (Y:τ.yN P.n≠[]->qY7 (τ.yV P.n)=none->∀m' H',wP P τ H'->TC P H0 c1 c2 H'->Q (.ret (.str 88)) m' H')
  (U:τ.yN P.n≠[]->∀w,qY7 (τ.yV P.n)=some w->∀m' H',m' 82=some (.ref P.rules)->wP P (τ.moved w) H'->TC P H0 c1 c2 H'->O6 Z n (tF c1 c2) qM r m' Q H'):O6 Z n (tF c1 c2) qM (wL7 r) m Q H:=by
 refine wV I.bk λl bl T B _=>?_;refine jV<|xM<|kU<|vH (l:=B4 P.n) (g:=λi=>AV.str (τ.t i).st.bcode) (λi=>if τ.U7 i=true then some (.str (τ.t i).st.bcode) else none) (.qA (.qG rfl C.book) .R3 T B.st) I.bs (by rw[B9];lia) (λi t=>?_) λb hb=>?_
 ·have t:=qX4.mp t;have D:=(W i t).1;have u:Rd Z n (tF c1 c2) qM (M.one 40 (.str (τ.t i).st.bcode)) H (.R6 .tU (.N9 40) (.R3 (.str 32))) (.bool (τ.U7 i)):=.R6 (.N9 rfl) .R3 ((Nx _).trans (by
   unfold TT.U7;by_cases c:(τ.t i).st=.done
   ·exact qX (dct (.inr c)) (qX (dct c) rfl)
   ·rw[dcf (λh=>h.elim D c),dcf c]))
  cases h:τ.U7 i with
  |true=>rw[h] at u;exact .inl (zU _ (A3 rfl) (.yC (.val u rfl) .uK) (.N9 rfl))
  |false=>rw[h] at u;exact .inr ⟨D9 Bool.false_ne_true,.vY (.val u rfl)⟩
 refine qX (Za) ?_;have E:qV MN H (H.qQ 62 b ((τ.yN P.n).map λi=>AV.str (τ.t i).st.bcode)):=qV.refl.qQ (.inr hb);have o:(H.qQ 62 b ((τ.yN P.n).map λi=>AV.str (τ.t i).st.bcode)).lst 62 b=some ((τ.yN P.n).map λi=>AV.str (τ.t i).st.bcode):=qW ..;show wE Z n _ qM (.list 61 .nil) _ _ (H.qQ 62 b ((τ.yN P.n).map λi=>AV.str (τ.t i).st.bcode));generalize H.qQ 62 b ((τ.yN P.n).map λi=>AV.str (τ.t i).st.bcode)=G at E o⊢;refine wO λz hz=>qZ _ ((gO (qT o) (qW ..)).trans (uN _)) (qZ _ rfl ?_);have v:qV MN H (G.qQ 61 z []):=E.qQ (.inr (E.fr _ hz));have x:=I.keep (v.lE);have y:=C.step (v.lE);have f:=v.Ps T;generalize G.qQ 61 z []=G2 at v x y f⊢;by_cases p:τ.yN P.n=[]
 ·refine qX (p) ?_;exact fI<|wB .R3 (X p _ _ x y)
 ·have e:decide ((τ.yN P.n).map (λi=>AV.str (τ.t i).st.bcode)=[])=false:=dcf λh=>p (qJ7.mp h);refine qX (e) ?_;refine mR<|qP<|xF<|vH (l:=B4 P.n) (g:=λi=>dS (τ.t i).wake) (λi=>(τ.t i).wake.map AV.int) (.qA (.qG rfl y.book) .R3 f B.un) x.bu (by rw[B9];lia) (λi t=>?_) λq F=>?_
  ·cases h:(τ.t i).wake with
   |none=>exact .inr ⟨rfl,.vY (.val (.R6 (.N9 rfl) .R3 rfl) rfl)⟩
   |some w=>exact .inl (zU _ rfl (.yC (.val (.R6 (.N9 rfl) .R3 rfl) rfl) .uK) (.N9 rfl))
  have ew:(B4 P.n).filterMap (λi=>(τ.t i).wake.map AV.int)=(W9 (τ.yV P.n)).map AV.int:=by
   unfold W9 TT.yV;refine qX (List.filterMap_map) (qX (List.map_filterMap) ?_);rfl
  refine qX (ew) ?_;have J:qV MN G2 (G2.qQ 63 q ((W9 (τ.yV P.n)).map AV.int)):=qV.refl.qQ (.inr F);have j:(G2.qQ 63 q ((W9 (τ.yV P.n)).map AV.int)).lst 63 q=some ((W9 (τ.yV P.n)).map AV.int):=qW ..;generalize G2.qQ 63 q ((W9 (τ.yV P.n)).map AV.int)=G3 at J j⊢;refine jV<|xM<|kU<|rd (.N9 rfl)<|wO λK L=>qZ _ ((gO (qT j) (qW ..)).trans (uN _)) (qZ _ rfl ?_);have A:qV MN G2 (G3.qQ 61 K []):=J.qQ (.inr (J.fr _ L));have d:=x.keep (A.lE);have k:=y.step (A.lE);have a:=A.Ps f;have s:(G3.qQ 61 K []).lst 63 q=some ((W9 (τ.yV P.n)).map AV.int):=qT j;generalize G3.qQ 61 K []=G4 at A d k a s⊢;have lm:=Dr (τ.yV P.n);cases N:W9 (τ.yV P.n) with
  |nil=>
   replace lm:=N▸lm;exact fI<|wB .R3 (Y p lm _ _ d k)
  |cons w ws=>
   have hm:qY7 (τ.yV P.n)=some (ws.foldl min w):=qX lm (qX N rfl);refine mR<|qP<|Z9 (.max2 (.qA (.qG rfl k.book) .R3 a B.ti) (.Jn (.N9 rfl) s (Tk _) (qX N rfl))) (.qG rfl k.book) .R3 a (U p _ hm _ _ V ?_ ⟨k.book,k.zZ,k.keep.xV (.inl (by decide))⟩);refine wV d.bk λl' O R S z1=>zX z1 λps hp ht ea=>?_;obtain rfl:=sj a R;exact⟨xO _ O (xA ..) S.time (zU ps hp ht ea),d.bs,d.bu,d.ba,d.bi,d.bt⟩
theorem wG3(T:Z.xR)(I:wP P τ H)(W:τ.Wf P)(hn:P.n≤4)(C:TC P H0 c1 c2 H)(V:qD H0 c2)(q:∀m' H',(∀k,k∈[82]->m' k=m k)->wP P (τ.pN P.n) H'->TC P H0 c1 c2 H'->O6 Z (n+1) (tF c1 c2) qM r m' Q H'):O6 Z (n+1) (tF c1 c2) qM (wP4 r) m Q H:=by
 refine wV I.bk λl bl f g _=>?_;have X:Rd Z (n+1) (tF c1 c2) qM m H (.uX 52 Eu) (.int P.n):=by
  have:=Rd.uX (Z:=Z) (n:=n+1) (F:=tF c1 c2) (R:=qM) (m:=m) (.qA (.qG rfl C.book) .R3 f g.st) I.bs;rw[S6,B9] at this;exact this
 refine Gc (λj m' H'=>m'=m∧wP P (τ.pN j) H'∧TC P H0 c1 c2 H') rfl X (by lia) (λj m' H' h=>h.2.2.zZ) ?_ ⟨rfl,by rw[Q6];exact I,C⟩ λm' H' Y=>wH Y λe u z=>q m' H' (by rw[e];exactλ_ _=>rfl) u z;intro j m' H' K A J;refine wH J λz1 u z=>?_;clear J;subst z1;intro L;have d:wP P (τ.pN j) (H'.qU 19 c2 (some (.int j))):=u.qG;have b:=z.setW V (v:=some (.int j));have i:(H'.qU 19 c2 (some (.int j))).qG 19 c2=some (some (.int j)):=qS ..;generalize H'.qU 19 c2 (some (.int j))=G at d b i⊢;refine wV d.bk λl bl f g _=>?_;have M:=Ui τ j;have ru:Rd Z (n+1) (tF c1 c2) qM m' G (.wZ 53 (.qA 49 (.qG 25) (.R3 (.str 92))) (.qG 19)) (dS ((τ.pN j).t j).wake):=.wZ (.qA (.qG rfl b.book) .R3 f g.un) (.qG rfl i) d.bu (Wj A);have B:Rd Z (n+1) (tF c1 c2) qM m' G (.wZ 52 Eu (.qG 19)) (.str ((τ.pN j).t j).st.bcode):=.wZ (.qA (.qG rfl b.book) .R3 f g.st) (.qG rfl i) d.bs (Wj A);rw[M] at ru B;have N:sC τ.time (τ.t j).wake=false->K .next m' G:=λh=>L _ _ ⟨rfl,qX (C6 (Tw h)) d,b⟩;cases o:(τ.t j).wake with
 |none=>
  replace ru:=o▸ru;exact wW (.vY (.val (.R6 ru .R3 rfl) rfl))<|qP (N (qX o rfl))
 |some w=>
  replace ru:=o▸ru;have p:Rd Z (n+1) (tF c1 c2) qM m' G (.R6 .le (.wZ 53 (.qA 49 (.qG 25) (.R3 (.str 92))) (.qG 19)) (.qA 49 (.qG 25) (.R3 (.str 53)))) (.bool (decide (w≤τ.time))):=.R6 ru (.qA (.qG rfl b.book) .R3 f g.ti) rfl;by_cases c:w≤τ.time
  ·rw[dct c] at p;have hd:sC τ.time (τ.t j).wake=true:=qX o (dct c);refine wI (.yC (.val (.R6 ru .R3 rfl) rfl) (.yC (.val p rfl) .uK))<|vV<|qE<|qR<|rd (.qG rfl b.book)<|qR<|rd (.qG rfl i)<|qR ?_;have fin:∀(a:AV)(x:Ev)(s:St),gY s.tup x a->(⟨.ready,none,x,(τ.t j).ab⟩:lQ)=(τ.t j).uQ->qV MN G s->qB Z (n+1) 619 [.ref P.bk,.int j,a] s (λ_ H1=>O6 Z (n+1) (tF c1 c2) qM (.cons Ky .nil) m' (λD m' H'=>match D with|.next=>O6 Z (n+1) (tF c1 c2) qM .nil m' K H'|D=>K D m' H') H1) qM:=λa x s hA hx E=>by
    have I2:=d.keep (E.lE);refine W4 T I2 A hA λH3 O S=>?_;have U:=(b.step (E.lE)).step (S.lE);rw[M,hx] at O;refine Gd O (Nat.lt_of_le_of_lt (Nat.le_trans (E9 ..) W.len) (by decide)) rfl rfl U.book (S.qG _ _ _ (E.qG _ _ _ i)) λH4 I4 k4=>qP<|qP (L _ _ ⟨rfl,?_,U.step (k4.lE)⟩);have e:=Gl hd;exact qX (C6 (e)) (I4)
   by_cases t:(τ.t j).st=.zL
   ·exact Ud (.val (.R6 B .R3 ((Wv _).trans (cgA some (dct t)))) rfl)<|uM λy hy=>vU .nil<|fin (.ref y) .yZ _ (qZ y rfl (zN ..)) (by unfold lQ.uQ;rw[A3 t]) (qV.refl.zQ hy)
   ·exact iE (.val (.R6 B .R3 ((Wv _).trans (cgA some (dcf t)))) rfl)<|rd .R3<|vU .nil<|fin .none .none _ rfl (by unfold lQ.uQ;rw[D9 t]) .refl
  ·rw[dcf c] at p;exact wW (.yC (.val (.R6 ru .R3 rfl) rfl) (.vY (.val p rfl)))<|qP (N (by rw[o];exact dcf c))
theorem Jq:∀{k:Nat}{τ:TT},(∀a∈τ.asks,a.zZ<N)->∀a∈(τ.zJ P k).asks,a.zZ<N
 |0,_,h=>h
 |k+1,τ,h=>by
  cases e:τ.next P with
  |none=>rw[xQ e];exact h
  |some a=>rw[xI e];exact Jq λb c=>h b (T6.mp c).1
def X3(P:xZ)(c:Turn)(a:AV)(H:St):Prop:=match c with
 |.go τ=>wP P τ H∧∃b,a=.ref b∧H.lst 60 b=some ((τ.zB P.n).map λ(i:Nat)=>.int i)
 |.over τ=>wP P τ H∧a=.str 43
 |.stuck τ=>wP P τ H∧a=.str 88
theorem zO3(T:Z.xR)(I:wP P τ H)(W:τ.Wf P)(g:P.n≤4)(r:∀a∈τ.asks,a.zZ<P.n)(D:τ.told.length+τ.asks.length<1000)(B:fJ P H)(q:∀a H',X3 P (τ.turn P) a H'->qV MB H H'->Q a H'):qB Z (n+4) 636 [.ref P.bk,.ref P.rules] H Q qM:=by
 refine tD T.hh T.ok (Uy T) rfl λd M c2 N=>?_;have E:qV MB H (H.qU 25 d (some (.ref P.bk))):=qV.refl.qU M;have o:qD H c2:=E.fr _ N;have C:TC P H d c2 ((H.qU 25 d (some (.ref P.bk))).qU 19 c2 none):=⟨pM (qS ..),yU _ (qS ..),E.qU o⟩;have F:wP P τ ((H.qU 25 d (some (.ref P.bk))).qU 19 c2 none):=(I.qG).qG;show O6 Z (n+3) (tF d c2) qM pY _ _ ((H.qU 25 d (some (.ref P.bk))).qU 19 c2 none);generalize (H.qU 25 d (some (.ref P.bk))).qU 19 c2 none=G at C F⊢;refine qX (Dn) ?_;have O:=Wf.settle (n:=P.n) W;have c:∀a∈(τ.settle P.n).asks,a.zZ<P.n:=λa s=>r a (T6.mp s).1;have t:(τ.settle P.n).told.length+(τ.settle P.n).asks.length<1000:=Nat.lt_of_le_of_lt (Nat.add_le_add_left (E9 ..) _) D;have j:∀a∈(τ.first P).asks,a.zZ<P.n:=Jq c;refine⟨2,(jR.val .R3 rfl) _ (fI<|W8 F W g C o λm1 H1 R S U=>zR0 T S O g c t U B ((R _ (by decide)).trans rfl) (λh b u H' e f v=>q _ H' ?_ f.keep) λh m2 H2 V X Y=>wV4 X (vK W) g Y V (λk u H' e f=>q _ H' ?_ f.keep) (λk p u H' e f=>q _ H' ?_ f.keep) λk w p m3 H3 e3 I3 C3=>wG3 T I3 (Wf.moved (mD W) w) g C3 o λm4 H4 e4 x C4=>?_)⟩
 ·exact qX (cL h) ((pS e (qZ b rfl v)))
 ·exact qX (gV h k) (⟨e,rfl⟩)
 ·exact qX (lR h k p) (⟨e,rfl⟩)
 ·have J:=mD W;have K:=Kz J w;have cm:=(vK W).yZ J (Nat.le_refl _) w;have y:((τ.first P).yZ P.n w).zB P.n≠[]:=Zo p;have l:(((τ.first P).yZ P.n w).zJ P 4).zB P.n≠[]:=by
   obtain⟨i,L⟩:=qB8 _ y;exact qV7 (jH.mpr ⟨(jH.mp L).1,fZ (jH.mp L).2⟩)
  have ht:=gU h k p;have m:∀a∈((τ.first P).yZ P.n w).asks,a.zZ<P.n:=λa s=>j a (T6.mp s).1;have z:((τ.first P).yZ P.n w).told.length+((τ.first P).yZ P.n w).asks.length<1000:=Nat.lt_of_le_of_lt (Nat.le_trans (Wz w) gK) D;have x:wP P ((τ.first P).yZ P.n w) H4:=x;refine qP ?_;refine(jR.val .R3 rfl) _ (fI<|W8 x K g C4 o λm5 H5 e5 I5 C5=>?_);replace I5:=cm.settle▸I5;refine zR0 T I5 K g m z C5 B ((e5 _ (by decide)).trans ((e4 _ (by decide)).trans e3)) (λh b u H' e f v=>q _ H' ?_ f.keep) λA=>absurd A l;exact qX (ht) ((pS e (qZ b rfl v)))
inductive pV(tup:Addr->Option (List AV))(n:Nat):AV->Prop
 |call (a:Addr) (k:Nat) (wv:AV) (hk:k∈jS) (hw:sO wv) (h:tup a=some [.str 26,.str k,wv]):pV tup n (.ref a)
 |sleep (a:Addr) (w:Int) (h0:0≤w) (h1:w≤4) (h:tup a=some [.str 84,.int w]):pV tup n (.ref a)
 |abort (a:Addr) (j:Nat) (hj:j<n) (h:tup a=some [.str 63,.int j]):pV tup n (.ref a)
theorem pV.keep{M:mM}{H H':St}(h:pV H.tup n v)(k:qV M H H'):pV H'.tup n v:=by
 cases h with
 |call a b c d e h=>exact .call a b c d e (k.tup _ _ h)
 |sleep a w f g h=>exact .sleep a w f g (k.tup _ _ h)
 |abort a j i h=>exact .abort a j i (k.tup _ _ h)
structure pU(n:Nat)(pr:Nat->Addr)(H:St):Prop where
 rows:∀j,j<n->∃rs,H.lst 46 (pr j)=some rs∧rs.length≤100∧∀r∈rs,pV H.tup n r
theorem pU.keep{M:mM}(h:pU n pr H)(k:qV M H H')(d:46∉M.ml):pU n pr H':=⟨λj e=>zX (h.rows j e) λf a b c=>zU f (k.lst _ d _ _ a) b (λr g=>(c r g).keep k)⟩
theorem pU.pop(h:pU n pr H)(e:H.lst 46 (pr i)=some (r::rs))(hi:i<n):pU n pr (H.qQ 46 (pr i) rs):=⟨λj f=>by
 refine zX (h.rows j f) λd a b c=>?_;by_cases q:pr j=pr i
 ·rw[q] at a⊢;obtain rfl:=sj e a;exact zU rs (qW ..) (by rw[qW2] at b;exact Nat.le_of_lt b) (λx g=>c x (S9 _ g))
 ·exact(zU d (vJ a (.inr q)) b c)⟩
section
variable{Z:Ctx}{F:Fm}{R:Value->St->Prop}{H:St}{K:AV->St->Prop}
theorem zK8(h:Rd Z n F R m H x v)(a:qL1 H v=some true)(k:wE Z n F R y m K H):wE Z n F R (.and (.cons x (.cons y .nil))) m K H:=h _ (qZ true a (fI k))
theorem X4(f:gY H.tup x a)(g:gY H.tup x b):lB .neT a b H=some false:=by
 have c:∀k t u,H.tup t=some [.str k]->H.tup u=some [.str k]->lB .neT (.ref t) (.ref u) H=some false:=λk t u d e=>by
  show((H.tup t).bind λi=>(H.tup u).bind λj=>if(i.all (λv=>(sr v).isSome)&&j.all (λv=>(sr v).isSome))=true then some (decide (i≠j)) else none)=_;refine qX (d) (qX (e) ?_);show some (decide ([AV.str k]≠[AV.str k]))=_;exact qX (dcf (λh=>h rfl)) rfl
 cases x with
 |none=>rw[show a=.none from f,show b=.none from g];rfl
 |called=>obtain⟨t,rfl,d⟩:=f;obtain⟨u,rfl,e⟩:=g;exact c _ t u d e
 |yZ=>obtain⟨t,rfl,d⟩:=f;obtain⟨u,rfl,e⟩:=g;exact c _ t u d e
 |refused=>obtain⟨t,rfl,d⟩:=f;obtain⟨u,rfl,e⟩:=g;exact c _ t u d e
theorem Wu(l:List α)(f:α->Int):Xi (l.map λi=>AV.int (f i)) (l.map λi=>AV.int (f i))=some true:=by
 unfold Xi;rw[A3 rfl,A3,dct rfl];have:(l.map λi=>AV.int (f i)).all qX3=true:=D5.mpr λx a=>by obtain⟨i,_,rfl⟩:=T8.mp a;rfl
 rw[this];rfl
theorem zH0(c:H.sd s x=some (iY f))(d:H.sd t y=some (iY f)):lB (.F3 s t) (.ref x) (.ref y) H=some true:=by
 show((H.sd s x).bind λa=>(H.sd t y).bind λb=>if(a.all (λp=>qX3 p.2)&&b.all (λp=>qX3 p.2)&&decide (a.map (·.1)=b.map (·.1)))=true then some (decide (a=b)) else none)=_;refine qX (c) (qX (d) ?_);show some (decide (iY f=iY f))=_;exact qX (dct rfl) rfl
theorem zZ8(c:H.sd s x=some (iY f))(d:H.sd t y=some (iY f)):lB (.neD s t) (.ref x) (.ref y) H=some false:=by
 show((H.sd s x).bind λa=>(H.sd t y).bind λb=>if(a.all (λp=>qX3 p.2)&&b.all (λp=>qX3 p.2)&&decide (a.map (·.1)=b.map (·.1)))=true then some (decide (a≠b)) else none)=_;refine qX (c) (qX (d) ?_);show some (decide (iY f≠iY f))=_;exact qX (dcf (λh=>h rfl)) rfl
theorem zF5(c:Rd Z n F R m H e (.ref a))(b:H.lst tg a=some (v::vs))(d:vs.length<10000)(q:K v (H.qQ tg a vs)):wE Z n F R (.Fi tg e) m K H:=c _ (qZ a rfl (zU _ b (by rw[qW2];lia) (qZ v rfl q)))
end
section
variable{P:xZ}{τ:TT}
theorem wP.mark(h:wP P τ H)(hi:i<P.n):wP P (τ.mark i) (H.qQ 59 P.bi (((B4 P.n).map λi=>AV.bool (τ.t i).ab).set i (.bool true))) where
 bk:=by
  refine wV h.bk λl bl a b g=>zX g λk c d e=>?_;exact xO l bl a b (zU k (qT c) d e)
 bs:=(qT h.bs).trans (cgA some (D6 λj _=>by unfold TT.mark;rw[yG];by_cases e:j=i<;>simp[e]))
 bu:=(qT h.bu).trans (cgA some (D6 λj _=>by unfold TT.mark;rw[yG];by_cases e:j=i<;>simp[e]))
 ba:=by
  refine zX h.ba λm a b c=>?_;refine zU m (qT a) b (λj n=>?_);refine qY (c j n) λy o f=>?_;refine qZ y o ?_;unfold TT.mark;rw[yG];by_cases e:j=i
  ·rw[A3 e];rw[e] at f;exact f
  ·rw[D9 e];exact f
 bi:=(qW ..).trans (cgA some (nN.trans (D6 λj _=>by unfold TT.mark;rw[yG];by_cases e:j=i<;>simp[e])))
 bt:=qT h.bt
theorem Wf.mark(W:τ.Wf P)(i:Nat):(τ.mark i).Wf P:=by
 have e:∀j,((τ.mark i).t j).st=(τ.t j).st∧((τ.mark i).t j).wake=(τ.t j).wake:=λj=>by
  unfold TT.mark;rw[yG];by_cases e:j=i<;>simp[e]
 exact⟨W.once,λj a=>by rw[(e j).1];exact W.call j a,W.name,W.len,λj a=>by rw[(e j).1,(e j).2];exact W.woke j a,λj a=>by rw[(e j).1];exact W.meet j a,W.nodup⟩
structure Wl(P:xZ)(pr:Nat->Addr)(τ:TT)(eQ:Int)(N B:Nat)(H:St):Prop where
 I:zW P τ eQ 0 H
 bk:wP P τ H
 W:τ.Wf P
 nx:τ.next P=none
 len:τ.told.length+τ.asks.length≤N
 pr:pU P.n pr H
 th:∃a,a=P.ad 26∧H.lst 19 a=some ((B4 P.n).map λi=>.ref (P.ts i))
 C:lN P B H
end
noncomputable def MA:mM:={mo:=[195,138,409,488,31],ml:=[3,16,46,47,65,50,52,53,54,58,59,70],ms:=[41,49],mt:=[2]}
theorem wN4(vs:List AV)(j:Nat):uC vs (j:Int)=vs[j]?:=by
 unfold uC;rw[D9 (by lia),A3 (Int.natCast_nonneg j),Int.toNat_natCast]
theorem wP.setSt(h:wP P τ H)(hi:i<P.n)(g:x.wake=(τ.t i).wake)(m:x.fS=(τ.t i).fS)(k:x.ab=(τ.t i).ab):wP P (τ.xH i x) (H.qQ 52 P.bs (((B4 P.n).map λi=>AV.str (τ.t i).st.bcode).set i (.str x.st.bcode))) where
 bk:=by
  refine wV h.bk λl bl a b n=>zX n λo c d e=>?_;exact xO l bl a b (zU o (qT c) d e)
 bs:=(qW ..).trans (cgA some (nN.trans (D6 λj _=>by rw[yG];by_cases e:j=i<;>simp[e])))
 bu:=(qT h.bu).trans (cgA some (D6 λj _=>by rw[yG];by_cases e:j=i<;>simp[e,g]))
 ba:=by
  refine zX h.ba λp a b c=>?_;refine zU p (qT a) b (λj q=>?_);refine qY (c j q) λy r f=>?_;refine qZ y r ?_;rw[yG];by_cases e:j=i
  ·rw[A3 e,m];rw[e] at f;exact f
  ·rw[D9 e];exact f
 bi:=(qT h.bi).trans (cgA some (D6 λj _=>by rw[yG];by_cases e:j=i<;>simp[e,k]))
 bt:=qT h.bt
section
variable{Z:Ctx}{P:xZ}{τ:TT}{pr:Nat->Addr}{N B:Nat}
theorem X5:(τ.tQ P i k wv c num).told.length+(τ.tQ P i k wv c num).asks.length≤τ.told.length+τ.asks.length+1:=by
 unfold TT.tQ;refine Nat.le_trans uA ?_;by_cases h:jT P τ k=true
 ·refine qX (A3 h) ?_;show(τ.told++[i]).length+τ.asks.length≤_;refine qX E8 ?_;simp only[qZ3];lia
 ·refine qX (D9 h) ?_;have r:∀v,((τ.yD i).rest i k v c num).told.length+((τ.yD i).rest i k v c num).asks.length≤τ.told.length+τ.asks.length+1:=λv=>by
   show τ.told.length+(τ.asks++[_]).length≤_;exact qX (E8) (Nat.le_refl _)
  have s:∀x,((τ.yD i).jK i x).told.length+((τ.yD i).jK i x).asks.length≤τ.told.length+τ.asks.length+1:=λx=>Nat.le_succ _;cases wv with
  |str a=>exact s _
  |int w=>
   by_cases d:w≤0
   ·have e:(τ.yD i).queue i k (.int w) c num=(τ.yD i).jK i .yZ:=A3 d;exact qX (e) (s _)
   ·have e:(τ.yD i).queue i k (.int w) c num=(τ.yD i).rest i k (.int w) c num:=D9 d;exact qX (e) (r _)
  |none=>exact r _
  |bool b=>exact r _
  |ref a=>exact r _
theorem zU7(W:τ.Wf P)(f:P.n≤4)(b:∀a∈τ.asks,a.zZ<P.n)(hi:i<P.n)(d:(τ.t i).st=.ready)(g:k∈jS):(τ.tQ P i k wv c num).Wf P∧(τ.tQ P i k wv c num).next P=none:=by
 have e:(if jT P τ k=true then τ.hit i else(τ.yD i).queue i k wv c num).Wf P:=by
  by_cases h:jT P τ k=true
  ·exact qX (A3 h) (Wf.hit W hi d)
  ·exact qX (D9 h) (Wf.queue W hi f b d g)
 exact⟨Wf.zJ e,uE e.len⟩
theorem wZ8(T:Z.xR){a:TT}{b:Int}(I:zW P a b 0 H)(bk:wP P a H)(W:a.Wf P){m:M}{Q:Fl->M->St->Prop}{r:Ss}(i:m 54=some (.ref P.told))(e:m 25=some (.ref P.bk))(h:m 90=some (.ref P.th))(q:∀H',qV MN H H'->Q (.ret (.bool true)) m H'):
  O6 Z (n+2) (λ_=>none) qM (.cons (.ret (.and (.cons (.R6 (.iU 47 58) (.N9 54) (.qA 49 (.N9 25) (.R3 (.str 54)))) (.cons (.R6 (.F3 44 45) (.call (.R5 211 (.ref 593)) (.cons (.N9 90) .nil)) (.call (.R5 223 (.ref 612)) (.cons (.N9 25) .nil))) .nil)))) r) m Q H:=by
 refine wV bk.bk λl bl j k _=>?_;exact jF<|zK8 (.R6 (.N9 i) (.qA (.N9 e) .R3 j k.to) ((gO I.told bk.bt).trans (Wu _ _))) rfl<|kU<|qE<|vU (.cons (.N9 h) .nil)<|cV T I λd s f o=>qE<|vU (.cons (.N9 e) .nil)<|fY T (bk.keep (f.lE)) (Nat.lt_of_le_of_lt W.len (by decide)) λt p g c=>qZ true (zH0 (g.Ps o) c) (q p (f.trans g))
theorem Wl.keep(S:Wl P pr τ eQ N B H)(k:qV MN H H'):Wl P pr τ eQ N B H':=⟨S.I.keep (k.lE),S.bk.keep (k.lE),S.W,S.nx,S.len,S.pr.keep k (by decide),qY S.th λa e h=>qZ a e (k.zS h),S.C.keep k (by decide) (by decide) (by decide)⟩
theorem wX8(T:Z.xR)(S:Wl P pr τ eQ N B H)(hN:N<800)(h0:∀j,P.ins j=0)(bb:P.wr=.none){zZ:Nat}(hi:zZ<P.n)(F:(τ.t zZ).st=.ready)(ah:(τ.t zZ).ab=false)(q:∀o b H',Wl P pr o b (N+1) B H'->qV MA H H'->Q (.bool true) H'):
  qB Z (n+10) 643 [.ref P.tk,.ref P.th,.ref (P.ad 26),.ref P.bk,.ref P.rules,.ref P.told,.ref (pr zZ),.int zZ] H Q qM:=by
 refine qY (S.I.task zZ hi) λf hf Wk=>qY S.th λ_ z1 W=>?_;subst z1;refine wV S.bk.bk λl bl hl Wb _=>zX S.bk.ba λas bc cf X=>qY (X zZ hi) λy hy bd=>qY Wk.answer λx hx be=>zX (S.pr.rows zZ hi) λY aa bf bg=>?_;have hd:(τ.t zZ).st≠.done:=qX F (λh=>nomatch h);have t:(τ.t zZ).st≠.zL:=qX F (λh=>nomatch h);have bh:∀a∈τ.asks,a.zZ≠zZ:=λa ha e=>t ((S.W.call zZ hi).mpr ⟨a,ha,e⟩);have ab:∀a∈τ.asks,a.zZ<P.n:=λa ha=>(S.I.asks a ha).1;have ca:(τ.t zZ).wake=none:=S.W.woke zZ hi t (by rw[F];exactλh=>nomatch h);have hn:=S.I.C.small;have I:=Int.natCast_nonneg zZ;refine uI T (Uj T) rfl<|jW (.wZ (.N9 rfl) (.N9 rfl) W (Wj hi))<|wW (.Pt (.val (.R6 (.R4 (.N9 rfl) hf Wk.raised) .R3 rfl) rfl) (.Pt (.val (.R6 (.R4 (.N9 rfl) hf hx) (.wZ (.qA (.N9 rfl) .R3 hl Wb.an) (.N9 rfl) bc ((wN4 as zZ).trans hy)) (X4 be bd)) rfl) .F7)) ?_;refine jV<|xM<|kU<|rd (.N9 rfl)<|wO λz hz=>⟨_,(gO (qT aa) (qW ..)).trans (uN _),_,rfl,?_⟩;have kz:qV MN H (H.qQ 64 z []):=qV.refl.qQ (.inr hz);have s:=S.keep kz;have C:=kz.zS aa;have u:=kz.zS W;have K:=λr F=>(bg r F).keep kz;have kA:=kz.le (N:=MA) (by decide);generalize H.qQ 64 z []=G at s C u K kA⊢;cases Y with
 |nil=>
  refine fI<|zA (.cons (.N9 rfl) .nil)<|sD T s.I hi hd λH1 I1 k1=>?_;have O:=s.bk.keep (k1.lE);refine wV O.bk λl1 cg cb cc _=>?_;refine yF .R3 (.qA (.N9 rfl) .R3 cb cc.st) (.N9 rfl) O.bs I (by rw[S6,B9];lia)<|wB .R3 (q (τ.xH zZ (τ.t zZ).fin) eQ _ ?_ ((kA.trans (k1.lE)).zY));rw[Int.toNat_natCast];have k2:qV MA G (H1.qQ 52 P.bs (((B4 P.n).map λi=>AV.str (τ.t i).st.bcode).set zZ (.str 32))):=(k1.lE).zY;have p:qV {mo:=[195,138,409,488,31],ml:=[3,16,47,52],mt:=[2]} G (H1.qQ 52 P.bs (((B4 P.n).map λi=>AV.str (τ.t i).st.bcode).set zZ (.str 32))):=(k1.lE).zY;exact⟨I1.keep (qV.refl.zY),O.setSt (x:=(τ.t zZ).fin) hi ca.symm rfl rfl,Wf.xH s.W hi t (λh=>nomatch h) (λh=>nomatch h) λ_=>rfl,s.nx,Nat.le_succ_of_le s.len,s.pr.keep p (by decide),⟨_,rfl,k2.zS u⟩,s.C.keep p (by decide) (by decide) (by decide)⟩
 |cons r Y=>
  refine mR<|qP<|xF<|zF5 (.N9 rfl) C (by rw[qW2] at bf;lia) ?_;have V:qV {ml:=[46]} G (G.qQ 46 (pr zZ) Y):=qV.refl.zY;have g:Wl P pr τ eQ N B (G.qQ 46 (pr zZ) Y):=⟨s.I.keep (V.lE),s.bk.keep (V.lE),s.W,s.nx,s.len,s.pr.pop C hi,⟨_,rfl,qT u⟩,s.C.keep V (by decide) (by decide) (by decide)⟩;have L:=(K r T3).keep V;have ac:=kA.trans (V.le (N:=MA) (by decide));have D:=V.zS u;generalize G.qQ 46 (pr zZ) Y=G2 at g L ac D⊢;have fin:∀(m:M)(o:TT)(b:Int)(H3:St),m 54=some (.ref P.told)->m 25=some (.ref P.bk)->m 90=some (.ref P.th)->zW P o b 0 H3->wP P o H3->o.Wf P->o.next P=none->o.told.length+o.asks.length≤N+1->qV {mo:=[195,138,409,488,31],ml:=[3,16,47,50,52,53,54,58,59],ms:=[49],mt:=[2]} G2 H3->O6 Z (n+9) (λ_=>none) qM (.cons (.ret (.and (.cons (.R6 (.iU 47 58) (.N9 54) (.qA 49 (.N9 25) (.R3 (.str 54)))) (.cons (.R6 (.F3 44 45) (.call (.R5 211 (.ref 593)) (.cons (.N9 90) .nil)) (.call (.R5 223 (.ref 612)) (.cons (.N9 25) .nil))) .nil)))) .nil) m (lP Q) H3:=λm o b H3 m1 m2 m3 I3 b3 W3 n3 l3 p=>by
   have S3:Wl P pr o b (N+1) B H3:=⟨I3,b3,W3,n3,l3,g.pr.keep p (by decide),⟨_,rfl,p.zS D⟩,g.C.keep p (by decide) (by decide) (by decide)⟩;exact wZ8 T I3 b3 W3 m1 m2 m3 λH4 J=>q o b H4 (S3.keep J) ((ac.trans (p.lE)).trans (J.lE))
  cases L with
  |abort a j hj h=>
   refine wI (.val (.R6 (.xS (.N9 rfl) .R3 h rfl) .R3 rfl) rfl)<|zA (.cons (.wZ (.N9 rfl) (.xS (.N9 rfl) .R3 h rfl) D (Wj hj)) .nil)<|wQ5 T g.I hj λH3 I3 p=>?_;have d:=g.bk.keep (p.lE);refine wV d.bk λl3 cd v A _=>?_;refine yF .R3 (.qA (.N9 rfl) .R3 v A.si) (.xS (.N9 rfl) .R3 (p.tup _ _ h) rfl) d.bi (Int.natCast_nonneg j) (by rw[S6,B9];lia)<|qP ?_;rw[Int.toNat_natCast];exact fin _ (τ.mark j) eQ _ rfl rfl rfl (I3.keep (qV.refl.zY)) (d.mark hj) (Wf.mark g.W j) g.nx (Nat.le_succ_of_le g.len) ((p.lE).zY)
  |call a k wv hk hw h=>
   refine vA (.val (.R6 (.xS (.N9 rfl) .R3 h rfl) .R3 rfl) rfl)<|wI (.val (.R6 (.xS (.N9 rfl) .R3 h rfl) .R3 rfl) rfl)<|zA (.cons (.N9 rfl) (.cons (.N9 rfl) (.cons (.N9 rfl) (.cons (.N9 rfl) (.cons (.N9 rfl) (.cons (.N9 rfl) .nil))))))<|zS7 T g.I g.W h0 bb (Nat.lt_of_le_of_lt g.len (by lia)) hi F hw h hk λc H3 I3 p=>?_;have d:=g.bk.keep (p.lE);refine qY I3.C.rules λrl ae af=>?_;refine zA (.cons (.N9 rfl) (.cons (.N9 rfl) (.cons (.N9 rfl) (.cons (.N9 rfl) .nil))))<|Nw T d g.W hn ab (Nat.lt_of_le_of_lt g.len (by lia)) ⟨rl,ae,af⟩ hi F hw (p.tup _ _ h) hk c (eQ+1) λH4 R J=>qP<|qP ?_;have aw:=zU7 g.W hn ab (wv:=wv) (c:=c) (num:=eQ+1) hi F hk;exact fin _ (τ.tQ P zZ k wv c (eQ+1)) (eQ+1) H4 rfl rfl rfl (I3.keep (J.lE)) R aw.1 aw.2 (Nat.le_trans X5 (Nat.succ_le_succ g.len)) ((p.lE).trans (J.lE))
  |sleep a w w0 w1 h=>
   refine vA (.val (.R6 (.xS (.N9 rfl) .R3 h rfl) .R3 rfl) rfl)<|vA (.val (.R6 (.xS (.N9 rfl) .R3 h rfl) .R3 rfl) rfl)<|zA (.cons (.N9 rfl) (.cons (.N9 rfl) (.cons (.xS (.N9 rfl) .R3 h rfl) .nil)))<|zF8 T g.I hi bh hd ah λH3 I3 p=>?_;have d:=g.bk.keep (p.lE);refine wV d.bk λl3 cd v A _=>zX d.ba λag E U _=>?_;have ce:(zZ:Int)<ag.length:=by rw[U];lia
   have h3:=p.tup _ _ h;refine yF .R3 (.qA (.N9 rfl) .R3 v A.an) (.N9 rfl) E I ce ?_;rw[Int.toNat_natCast];by_cases c:w>0
   ·refine wI (.val (.R6 (.xS (.N9 rfl) .R3 h3 rfl) .R3 (cgA some (dct c))) rfl)<|yF .R3 (.qA (.N9 rfl) .R3 v A.st) (.N9 rfl) (qT d.bs) I (by rw[S6,B9];lia)<|yF (.bin (.qA (.N9 rfl) .R3 v A.ti) (.xS (.N9 rfl) .R3 h3 rfl) rfl) (.qA (.N9 rfl) .R3 v A.un) (.N9 rfl) (qT (qT d.bu)) I (by rw[S6,B9];lia)<|qP<|qP<|qP ?_;rw[Int.toNat_natCast];have e:τ.N8 zZ w=τ.xH zZ ⟨.delayed,some (τ.time+w),.none,(τ.t zZ).ab⟩:=A3 c;rw[e] at I3;have J:qV {ml:=[52,53,54]} H3 (((H3.qQ 54 P.ba (ag.set zZ .none)).qQ 52 P.bs (((B4 P.n).map λi=>AV.str (τ.t i).st.bcode).set zZ (.str 122))).qQ 53 P.bu (((B4 P.n).map λi=>dS (τ.t i).wake).set zZ (.int (τ.time+w)))):=((qV.refl.zY).zY).zY;have R:=d.xH (x:=⟨.delayed,some (τ.time+w),.none,(τ.t zZ).ab⟩) (a:=.none) hi J E (qT (qW ..)) (qW ..) (qT (qT (qW ..))) rfl rfl;exact fin _ _ eQ _ rfl rfl rfl (I3.keep (J.lE)) R (Wf.xH g.W hi t (λh=>nomatch h) (λh=>nomatch h) λh=>absurd rfl h) g.nx (Nat.le_succ_of_le g.len) ((p.lE).trans (J.lE))
   ·refine wW (.val (.R6 (.xS (.N9 rfl) .R3 h3 rfl) .R3 (cgA some (dcf c))) rfl)<|qP<|qP ?_;have e:τ.N8 zZ w=τ.jK zZ .none:=D9 c;replace I3:=e▸I3;exact fin _ _ eQ _ rfl rfl rfl (I3.keep (qV.refl.zY)) (d.jK hi (x:=.none) E rfl) (Wf.yD g.W hi F .none) g.nx (Nat.le_succ_of_le g.len) ((p.lE).zY)
end
theorem zW2(h:wE Z n F R e m (λv f=>eS .dZ v f λvs inv=>fU inv (λx m' g H'=>if c=true then T9 (F k) λa=>T9 (H'.qG k a) λ_=>O6 Z n F R b m' g (H'.qU k a (some x)) else O6 Z n F R b (up m' k x) g H') vs m (λd m' H'=>match d with|.next=>O6 Z n F R r m' Q H'|d=>Q d m' H') f) H):O6 Z n F R (.cons (.yM c k .dZ e b) r) m Q H:=h
theorem X6{op:L5}{K:AV->St->Prop}(h:wE Z n F R a m (λv c=>wE Z n F R b m (λu d=>T9 (it v) λx=>T9 (it u) λy=>T9 (sV op x y) λz=>K (.int z) d) c) H):wE Z n F R (.bin op a b) m K H:=h
theorem zK2{K:AV->St->Prop}(h:wE Z n F R i m (λu a=>T9 (it u) λj=>T9 (sgn j) λx=>K x a) H):wE Z n F R (.Bv i) m K H:=h
theorem X7{K:AV->St->Prop}(h:wE Z n F R e m (λv c=>wE Z n F R i m (λu b=>T9 (rf v) λa=>T9 (b.tup a) λvs=>T9 (it u) λj=>T9 (uC vs j) λx=>K x b) c) H):wE Z n F R (.xS e i) m K H:=h
theorem Ny{tg:Nat}{K:AV->St->Prop}(c:Rd Z n F R m H e (.ref t))(a:∃vs,H.lst tg t=some vs)(h:wE Z n F R x m (λu b=>T9 (b.lst tg t) λvs=>vs.length<1000000∧K .none (b.qQ tg t (vs++[u]))) H):wE Z n F R (.append tg e x) m K H:=zH a λvs a=>c _ (qZ t rfl (qZ vs a h))
theorem X8{N:Nat}{body:AV->M->(Fl->M->St->Prop)->St->Prop}{G:Fl->M->St->Prop}(I:Nat->M->St->Prop)(p:N<1000)
  (step:∀j m' H' K,j<N->I j m' H'->(∀b c,I (j+1) b c->K .next b c)->(∀a b c,G (.ret a) b c->K (.ret a) b c)->body (.int j) m' K H') (g:I 0 m H) (fin:∀m' H',I N m' H'->G .next m' H'):eS .dZ (.int N) H λvs inv=>fU inv body vs m G H:=by
 refine⟨N,rfl,Int.natCast_nonneg N,by lia,?_⟩;have e:lY (N:Int)=(B4 N).map λ(i:Nat)=>AV.int i:=by unfold lY;rw[Int.toNat_natCast]
 refine qX (e) ?_;refine nG I (λ_ _ _ _ _=>trivial) (λj v m' H' K f i h k=>?_) (λm' H' i=>fin m' H' (by rw[S6,B9] at i;exact i)) g;rw[D4] at f;refine qY (B8.mp f) λx l n=>?_;subst n;obtain⟨o,d⟩:=C7.mp l;rw[qW5] at d;subst d;exact step j m' H' K (by simpa using o) i h k
theorem zX3(b:0≤j)(a:j<3):∃k∈jS,sgn j=some (.str k):=by
 have:j=0∨j=1∨j=2:=by lia
 rcases this with rfl|rfl|rfl
 ·exact qZ (1) (by decide) rfl
 ·exact qZ (2) (by decide) rfl
 ·exact qZ (3) (by decide) rfl
theorem wU3(b:0≤j)(a:j<5):∃wv,sO wv∧uC [.none,.int 2,.int 4,.int 0,.str 30] j=some wv:=by
 have:j=0∨j=1∨j=2∨j=3∨j=4:=by lia
 rcases this with rfl|rfl|rfl|rfl|rfl
 ·exact qZ _ (.inl rfl) rfl
 ·exact qZ _ (.inr (.inr (zU 2 rfl (by decide) (by decide)))) rfl
 ·exact qZ _ (.inr (.inr (zU 4 rfl (by decide) (by decide)))) rfl
 ·exact qZ _ (.inr (.inr (zU 0 rfl (by decide) (by decide)))) rfl
 ·exact qZ _ (.inr (.inl rfl)) rfl
structure fC(wl ce b:Addr)(size:Nat)(H0:St)(j:Nat)(m:M)(H:St):Prop where
 rows:∃rs,H.lst 46 b=some rs∧rs.length≤j∧∀r∈rs,pV H.tup size r
 well:kK wl ce H
 keep:qV MW H0 H
 m1:m 45=some (.ref b)
 m2:m 58=some (.ref wl)
 m3:m 49=some (.int size)
theorem fC.step(I:fC wl ce b size H0 j m H)(k:qV MW H H')(w:kK wl ce H'):fC wl ce b size H0 j m H':=by
 refine zX I.rows λd a b c=>?_;exact⟨zU d (k.zS a) b (λr e=>(c r e).keep k),w,I.keep.trans k,I.m1,I.m2,I.m3⟩
theorem fC.N9(I:fC wl ce b size H0 j m H)(a:k∉[45,58,49]):fC wl ce b size H0 j (up m k v) H:=by
 have e:∀j,j∈[45,58,49]->up m k v j=m j:=λj c=>D9 (λq:j=k=>a (q▸c));exact⟨I.rows,I.well,I.keep,(e _ (by decide)).trans I.m1,(e _ (by decide)).trans I.m2,(e _ (by decide)).trans I.m3⟩
theorem fC.has(I:fC wl ce b size H0 j m H):∃vs,H.lst 46 b=some vs:=I.rows.imp λ_ h=>h.1
theorem fC.add{e d b x:Addr}{size:Nat}{H0:St}{j:Nat}{m:M}{ws:List AV}(I:fC e d b size H0 j m H)(f:qD H0 b)(a:qD H x)(p:j<1000)
  (g:(H.zQ x ws).tup x=some ws->pV (H.zQ x ws).tup size (.ref x)) {K:St->Prop} (q:∀H',fC e d b size H0 (j+1) m H'->K H'):T9 ((H.zQ x ws).lst 46 b) λvs=>vs.length<1000000∧K ((H.zQ x ws).qQ 46 b (vs++[.ref x])):=by
 refine zX I.rows λi k l n=>?_;have o:qV MW H (H.zQ x ws):=qV.refl.zQ a;refine zU i k (by lia) (q _ ⟨zU _ (qW ..) (qX E8 (Nat.succ_le_succ l)) (λr c=>?_),(I.well.keep (M:=MN) (qV.refl.zQ a) (by decide) (by decide)).keep (M:={ml:=[46]}) (qV.refl.zY) (by decide) (by decide),(I.keep.trans o).qQ (.inr f),I.m1,I.m2,I.m3⟩);refine qQ0 (A4.mp c) (λh=>?_) λh=>?_
 ·exact(n r h).keep (M:={ml:=[46]}) ((qV.refl.zQ a).zY)
 ·exact qX (B7.mp h) (g (zN ..))
theorem zT1(T:Z.xR){u A:Addr}(h:kK u A H){size:Nat}(hs:0<size)(q:∀b l H',qD H b->H'.lst 46 b=some l->l.length≤100->(∀r∈l,pV H'.tup size r)->kK u A H'->qV MW H H'->Q (.ref b) H'):qB Z (n+2) 588 [.ref u,.int size] H Q qM:=by
 refine uI T (Uz T) rfl<|xF<|wO λb i=>zW2<|X6<|rd .R3<|qE<|vU (.cons (.N9 rfl) (.cons .R3 .nil))<|mC T (h.keep (M:=MN) (qV.refl.qQ (C:=46) (a:=b) (f:=[]) (.inr i)) (by decide) (by decide)) (by decide) λY H1 h0 G w1 J=>qZ 1 rfl (qZ Y rfl (qZ _ rfl ?_));refine zH (Int.eq_ofNat_of_zero_le h0) λN B=>?_;subst B;have eN:(1:Int)+N=((1+N:Nat):Int):=by exact rfl
 refine qX (eN) ?_;refine X8 (fC u A b size H) (by lia) ?_ ⟨(zU ([]) (J.zS (qW ..)) (Nat.le_refl _) (λr hr=>nomatch hr)),w1,(qV.refl.qQ (.inr i)).trans J,rfl,rfl,rfl⟩ ?_
 ·intro j L H' K hj I D kr;have g:j<1000:=by lia
  refine mR<|gX (.cons (.N9 (I.N9 (by decide)).m2) (.cons .R3 .nil))<|mC T I.well (by decide) λd H2 w0 w6 w2 k2=>?_;have c:=((I.step k2 w2).N9 (k:=0) (v:=.int j) (by decide)).N9 (k:=18) (v:=.int d) (by decide);generalize hm:up (up L 0 (.int j)) 18 (.int d)=m2 at c⊢;have w:m2 18=some (.int d):=qX (C6 (hm)) rfl;by_cases O:d<4
  ·refine wI (.val (.R6 (.N9 w) .R3 (cgA some (dct O))) rfl)<|xF<|zK2<|qE<|vU (.cons (.N9 c.m2) (.cons .R3 .nil))<|mC T c.well (by decide) λz P m E w3 o=>?_;refine qY (zX3 m E) λk hk ek=>?_;refine qZ z rfl (qZ _ ek ?_);have p:=(c.step o w3).N9 (k:=41) (v:=.str k) (by decide);refine vV<|Ny (.N9 p.m1) p.has<|bA<|qR<|rd .R3<|qR<|rd (.N9 rfl)<|qR<|X7<|Zr (.cons .R3 (.cons .R3 (.cons .R3 (.cons .R3 (.cons .R3 .nil))))) (Nat.le_of_ble_eq_true rfl) λy R=>qE<|vU (.cons (.N9 p.m2) (.cons .R3 .nil)) ?_;have S:=p.step (qV.refl.zQ (f:=[.none,.int 2,.int 4,.int 0,.str 30]) R) (p.well.keep (M:=MN) (qV.refl.zQ R) (by decide) (by decide));refine mC T S.well (by decide) λjw H4 v0 v5 w4 U=>?_;refine qY (wU3 v0 v5) λV F ev=>?_;have I5:=S.step U w4;exact qZ y rfl (qZ _ (U.tup _ _ (zN ..)) (qZ jw rfl (zU V ev (Nat.le_of_ble_eq_true rfl) (λx s=>I5.add i s g (λe=>.call x k V hk F e) λW t=>qP<|qP (D _ _ t)))))
  ·refine vA (.val (.R6 (.N9 w) .R3 (cgA some (dcf O))) rfl) ?_;by_cases X:d=4
   ·refine wI (.val (.R6 (.N9 w) .R3 (cgA some (dct X))) rfl)<|vV<|Ny (.N9 c.m1) c.has<|bA<|qR<|rd .R3<|qR<|qE<|vU (.cons (.N9 c.m2) (.cons .R3 .nil))<|mC T c.well (by decide) λz P m E w3 o=>?_;exact⟨Nat.le_of_ble_eq_true rfl,λx s=>(c.step o w3).add i s g (λe=>.sleep x z m (by lia) e) λW t=>qP<|qP<|qP (D _ _ t)⟩
   ·refine vA (.val (.R6 (.N9 w) .R3 (cgA some (dcf X))) rfl)<|vV<|Ny (.N9 c.m1) c.has<|bA<|qR<|rd .R3<|qR<|qE<|vU (.cons (.N9 c.m2) (.cons (.N9 c.m3) .nil))<|mC T c.well (by lia) λz P m E w3 o=>?_;refine zH (Int.eq_ofNat_of_zero_le m) λj2 B=>?_;subst B;exact⟨Nat.le_of_ble_eq_true rfl,λx s=>(c.step o w3).add i s g (λe=>.abort x j2 (by lia) e) λW t=>qP<|qP<|qP (D _ _ t)⟩
 ·intro L H' I;refine zX I.rows λl h1 h2 G=>?_;exact wB (.N9 I.m1) (q b l H' i h1 (by lia) G I.well I.keep)
structure iI(i:Nat)(st:Nat)(qd sv ms:Addr)(f:M):Prop where
 number:f 113=some (.int (i+1))
 state:f 86=some (.str st)
 wake:f 57=some .none
 answer:f 99=some .none
 raised:f 116=some .none
 Uh:f 216=some (.bool false)
 inside:f 107=some (.int 0)
 wL:f 181=some .none
 wD:f 115=some (.ref qd)
 xK:f 149=some (.ref sv)
 wA:f 142=some (.ref ms)
structure vM(k:Nat)(tk ck lm tl dl li lo ch:Addr)(ts:List Addr)(sv:AV)(H:St):Prop where
 tk:∃f,H.obj 409 tk=some f∧f 110=some (.ref li)∧f 104=some (.ref ch)∧f 66=some (.ref ck)∧f 89=some (.ref tl)∧f 145=some (.int k)∧f 150=some (.int 0)∧f 141=some (.ref lm)∧f 37=some (.ref lo)∧f 83=some sv∧f 218=none
 ck:∃f,H.obj 31 ck=some f∧f 14=some (.int 0)
 lm:∃f,H.obj 265 lm=some f∧f 78=some .none∧f 199=some (.ref dl)∧f 163=some (.bool false)
 li:∃f,H.obj 467 li=some f∧f 89=some (.int 50)
 tl:H.lst 18 tl=some (ts.map AV.ref)
 dl:H.lst 17 dl=some (ts.map AV.ref)
 lo:H.lst 16 lo=some []
theorem mE{F:Fm}{R:Value->St->Prop}{Q:Fl->M->St->Prop}{C k tg:Nat}(b:∀l vs,Rd Z n F R m ((H.qL C t f).xD tg l vs) e (.ref t))(q:∀l,qD H l->t≠l->O6 Z n F R r m Q ((H.xD tg l []).qL C t (up f k (.ref l)))):O6 Z n F R (.cons (.R7 (.R4 C e k) (.oH tg)) r) m Q (H.qL C t f):=λl c=>by
 have a:=(kN ..).mp c;refine b l [] _ (qZ t rfl (qZ f (qJ ..) ?_));have d:(((H.qL C t f).xD tg l []).qL C t (up f k (.ref l)))=((H.xD tg l []).qL C t (up f k (.ref l))):=by
  show((H.xD tg l []).qL C t f).qL C t (up f k (.ref l))=_;rw[xE]
 refine qX (d) ?_;exact q l a.1 a.2
theorem zX6(T:Z.xR)(q:∀x f,qD H x->f 14=some (.int 0)->Q (.ref x) (H.qL 31 x f)):qB Z (n+2) 31 [] H Q qM:=
 kO T.hh T.ok (Mm T) (Wo T) rfl λx a=>qN .R3 (.N9 rfl)<|qP ⟨rfl,q x _ a rfl⟩
theorem X9(T:Z.xR)(q:∀x f l,qD H x->qD H l->x≠l->f 78=some .none->f 199=some (.ref l)->f 163=some (.bool false)->Q (.ref x) ((H.qQ 17 l []).qL 265 x f)):qB Z (n+2) 265 [.int 0,.none] H Q qM:=
 kO T.hh T.ok (Ph T) (Zj T) rfl λx b=>qN (.N9 rfl) (.N9 rfl)<|qN (.N9 rfl) (.N9 rfl)<|wF (λ_ _=>.N9 rfl) λl c a=>qN .R3 (.N9 rfl)<|qP ⟨rfl,q x _ l b c a rfl rfl rfl⟩
noncomputable def MZ:mM:={}
theorem Ga(T:Z.xR){v:AV}{lm:Addr}(q:∀x b c ms f H',qD H x->iI i 73 b c ms f->H'.obj 195 x=some f->H'.td 4 b=some []->H'.lst 11 c=some []->H'.lst 12 ms=some []->qV MN H H'->(∀a,qD H' a->a≠x)->Q (.ref x) H'):qB Z (n+2) 195 [.int (i+1),v,.ref lm] H Q qM:=
 kO T.hh T.ok (Zg T) (bH T) rfl λx h=>qN (.N9 rfl) (.N9 rfl)<|qN (.N9 rfl) (.N9 rfl)<|qN (.N9 rfl) (.N9 rfl)<|qN .R5 (.N9 rfl)<|mE (λ_ _=>.N9 rfl) λb w _=>
  wF (λ_ _=>.N9 rfl) λo y _=>qN .R3 (.N9 rfl)<|qN .R3 (.N9 rfl)<|qN .R3 (.N9 rfl)<|wF (λ_ _=>.N9 rfl) λc d _=>wF (λ_ _=>.N9 rfl) λms e _=>
  qN .R3 (.N9 rfl)<|qN .R3 (.N9 rfl)<|qN .R3 (.N9 rfl)<|qN .R3 (.N9 rfl)<|qN .R3 (.N9 rfl)<|qN .R3 (.N9 rfl)<|qN .R3 (.N9 rfl)<|wF (λ_ _=>.N9 rfl) λj z _=>qN .R3 (.N9 rfl)<|qN .R3 (.N9 rfl)<|
  wF (λ_ _=>.N9 rfl) λk A _=>wF (λ_ _=>.N9 rfl) λl B _=>qN .R3 (.N9 rfl)<|qN .R3 (.N9 rfl)<|qN .R3 (.N9 rfl)<|qP ⟨rfl,by
   have m:qV MN H (H.xD 4 b []):=qV.refl.xD (.inr w);have p:=m.qQ (C:=10) (f:=[]) (.inr (m.fr _ y));have r:=p.qQ (C:=11) (f:=[]) (.inr (p.fr _ d));have s:=r.qQ (C:=12) (f:=[]) (.inr (r.fr _ e));have t:=s.qQ (C:=13) (f:=[]) (.inr (s.fr _ z));have u:=t.qQ (C:=14) (f:=[]) (.inr (t.fr _ A));have D:=u.qQ (C:=15) (f:=[]) (.inr (u.fr _ B));have E:(((H.xD 4 b []).qQ 10 o []).qQ 11 c []).lst 11 c=some []:=qW ..;have F:=vJ (t':=13) (a':=j) (g:=[]) (vJ (t':=12) (a':=ms) (g:=[]) E (.inl (by decide))) (.inl (by decide));have G:=vJ (t':=15) (a':=l) (g:=[]) (vJ (t':=14) (a':=k) (g:=[]) F (.inl (by decide))) (.inl (by decide));have I:((((H.xD 4 b []).qQ 10 o []).qQ 11 c []).qQ 12 ms []).lst 12 ms=some []:=qW ..;have J:=vJ (t':=14) (a':=k) (g:=[]) (vJ (t':=13) (a':=j) (g:=[]) I (.inl (by decide))) (.inl (by decide));exact q x b c ms _ _ h ⟨rfl,rfl,rfl,rfl,rfl,rfl,rfl,rfl,rfl,rfl,rfl⟩ (qJ ..) (uF ..) G (vJ (t':=15) (a':=l) (g:=[]) J (.inl (by decide))) (D.qL (.inr h)) λa K=>((kN ..).mp K).2.symm⟩
noncomputable def MK:mM:={mo:=[409],ml:=[17,18]}
theorem vM.keep{tk ck lm tl dl b lo ch:Addr}{ts:List Addr}{c:AV}{H H':St}(h:vM k tk ck lm tl dl b lo ch ts c H){M:mM}(a:qV M H H')(d:409∉M.mo∧31∉M.mo∧265∉M.mo∧467∉M.mo∧18∉M.ml∧17∉M.ml∧16∉M.ml):vM k tk ck lm tl dl b lo ch ts c H':=by
 refine wN2 d λg i j l m n o=>?_;exact⟨h.tk.imp λf e=>⟨a.obj _ g _ _ e.1,e.2⟩,h.ck.imp λf e=>⟨a.obj _ i _ _ e.1,e.2⟩,h.lm.imp λf e=>⟨a.obj _ j _ _ e.1,e.2⟩,h.li.imp λf e=>⟨a.obj _ l _ _ e.1,e.2⟩,a.lst _ m _ _ h.tl,a.lst _ n _ _ h.dl,a.lst _ o _ _ h.lo⟩
structure Made(xs:List (Addr×Addr×Addr×Addr))(st:Nat->Nat)(H:St):Prop where
 each:∀(i:Nat)(x:Addr×Addr×Addr×Addr),xs[i]?=some x->∃f,H.obj 195 x.1=some f∧iI i (st i) x.2.1 x.2.2.1 x.2.2.2 f
 subs:∀(i:Nat)(x:Addr×Addr×Addr×Addr),xs[i]?=some x->H.td 4 x.2.1=some []∧H.lst 11 x.2.2.1=some []∧H.lst 12 x.2.2.2=some []
 nd:(xs.map (·.1)).Nodup
theorem Made.keep{g:List (Addr×Addr×Addr×Addr)}{st:Nat->Nat}{H H':St}(h:Made g st H){M:mM}(k:qV M H H')(d:195∉M.mo∧4∉M.mt∧11∉M.ml∧12∉M.ml):Made g st H':=
 ⟨λi x e=>(h.each i x e).imp λf q=>⟨k.obj _ d.1 _ _ q.1,q.2⟩,λi x e=>wH (h.subs i x e) λa b c=>⟨k.td _ d.2.1 _ _ a,k.lst _ d.2.2.1 _ _ b,k.lst _ d.2.2.2 _ _ c⟩,h.nd⟩
theorem Ds(T:Z.xR)(k:∃f,H.obj 467 li=some f∧f 89=some (.int 50))(q:∀tk ck lm tl dl lo H',qD H tk->vM 0 tk ck lm tl dl li lo ch [] .none H'->qV MN H H'->Q (.ref tk) H'):qB Z (n+4) 409 [.ref li,.ref ch] H Q qM:=
 kO T.hh T.ok (Uv T) (aI T) rfl λx b=>qN (.N9 rfl) (.N9 rfl)<|qN (.N9 rfl) (.N9 rfl)<|vF<|qE<|vU .nil<|zX6 T λck j A l=>by
  have v:qV MN H (H.qL 409 x (up (up (λ_=>none) 110 (.ref li)) 104 (.ref ch))):=qV.refl.qL (.inr b);have m:=v.qL (C:=31) (f:=j) (.inr (v.fr _ A));have w:=vI (C':=31) (a':=ck) (g:=j) (qJ H 409 x (up (up (λ_=>none) 110 (.ref li)) 104 (.ref ch))) (.inl (by decide));have y:=qJ (H.qL 409 x (up (up (λ_=>none) 110 (.ref li)) 104 (.ref ch))) 31 ck j;generalize (H.qL 409 x (up (up (λ_=>none) 110 (.ref li)) 104 (.ref ch))).qL 31 ck j=G at m w y⊢;refine rd (.N9 rfl) (qZ x rfl (qZ _ w ?_));refine wF (λ_ _=>.N9 rfl) λtl o _=>qN .R3 (.N9 rfl)<|qN .R3 (.N9 rfl)<|vF<|qE<|vU (.cons .R3 (.cons .R3 .nil))<|X9 T λlm a dl p r B D E F=>?_;have s:=(m.qQ (C:=18) (f:=[]) (.inr (m.fr _ o))).qL (C:=409) (f:=up (up (up (up (up (up (λ_=>none) 110 (.ref li)) 104 (.ref ch)) 66 (.ref ck)) 89 (.ref tl)) 145 (.int 0)) 150 (.int 0)) (.inr b);have c:=(s.qQ (C:=17) (f:=[]) (.inr (s.fr _ r))).qL (C:=265) (f:=a) (.inr (s.fr _ p));have I:=vI (C':=265) (a':=lm) (g:=a) (qJ ((G.qQ 18 tl []).qQ 17 dl []) 409 x (up (up (up (up (up (up (λ_=>none) 110 (.ref li)) 104 (.ref ch)) 66 (.ref ck)) 89 (.ref tl)) 145 (.int 0)) 150 (.int 0))) (.inl (by decide));have J:=vI (C':=265) (a':=lm) (g:=a) (vI (C':=409) (a':=x) (g:=up (up (up (up (up (up (λ_=>none) 110 (.ref li)) 104 (.ref ch)) 66 (.ref ck)) 89 (.ref tl)) 145 (.int 0)) 150 (.int 0)) y (.inl (by decide))) (.inl (by decide));have t:(((G.qQ 18 tl []).qQ 17 dl []).lst 18 tl)=some []:=qT (qW ..);have u:(((G.qQ 18 tl []).qQ 17 dl []).lst 17 dl)=some []:=qW ..;have z:=qJ (((G.qQ 18 tl []).qL 409 x (up (up (up (up (up (up (λ_=>none) 110 (.ref li)) 104 (.ref ch)) 66 (.ref ck)) 89 (.ref tl)) 145 (.int 0)) 150 (.int 0))).qQ 17 dl []) 265 lm a
  revert t u
  rw[show(((G.qQ 18 tl []).qQ 17 dl []).lst 18 tl)=((((G.qQ 18 tl []).qL 409 x (up (up (up (up (up (up (λ_=>none) 110 (.ref li)) 104 (.ref ch)) 66 (.ref ck)) 89 (.ref tl)) 145 (.int 0)) 150 (.int 0))).qQ 17 dl []).qL 265 lm a).lst 18 tl from rfl,
   show(((G.qQ 18 tl []).qQ 17 dl []).lst 17 dl)=((((G.qQ 18 tl []).qL 409 x (up (up (up (up (up (up (λ_=>none) 110 (.ref li)) 104 (.ref ch)) 66 (.ref ck)) 89 (.ref tl)) 145 (.int 0)) 150 (.int 0))).qQ 17 dl []).qL 265 lm a).lst 17 dl from rfl]
  have d:((((G.qQ 18 tl []).qL 409 x (up (up (up (up (up (up (λ_=>none) 110 (.ref li)) 104 (.ref ch)) 66 (.ref ck)) 89 (.ref tl)) 145 (.int 0)) 150 (.int 0))).qQ 17 dl []).qL 265 lm a).obj 409 x=_:=I;have h:((((G.qQ 18 tl []).qL 409 x (up (up (up (up (up (up (λ_=>none) 110 (.ref li)) 104 (.ref ch)) 66 (.ref ck)) 89 (.ref tl)) 145 (.int 0)) 150 (.int 0))).qQ 17 dl []).qL 265 lm a).obj 31 ck=_:=J;generalize (((G.qQ 18 tl []).qL 409 x (up (up (up (up (up (up (λ_=>none) 110 (.ref li)) 104 (.ref ch)) 66 (.ref ck)) 89 (.ref tl)) 145 (.int 0)) 150 (.int 0))).qQ 17 dl []).qL 265 lm a=G2 at c d h z⊢;intro t u;refine rd (.N9 rfl) (qZ x rfl (qZ _ d ?_));refine wF (λ_ _=>.N9 rfl) λlo i _=>qN .R3 (.N9 rfl)<|qP ⟨rfl,q x ck lm tl dl lo _ b ?_ ((c.qQ (.inr (c.fr _ i))).qL (.inr b))⟩;exact⟨⟨_,qJ ..,rfl,rfl,rfl,rfl,rfl,rfl,rfl,rfl,rfl,rfl⟩,qZ _ (zF h) l,rE _ (zF z) D E F,k.imp λf e=>⟨((c.qQ (.inr (c.fr _ i))).qL (.inr b)).yB e.1,e.2⟩,(show(G2.qQ 16 lo []).lst 18 tl=some [] from qT t),(show(G2.qQ 16 lo []).lst 17 dl=some [] from qT u),(show(G2.qQ 16 lo []).lst 16 lo=some [] from qW ..)⟩
theorem Gi(T:Z.xR)(q:∀th a rd b f H',qD H th->H'.obj 488 th=some f->f 115=some (.ref a)->f 147=some (.ref rd)->f 136=some (.ref en)->f 36=some (.ref b)->f 127=some .none->H'.td 2 a=some []->H'.lst 36 rd=some []->H'.lst 37 b=some []->qV MN H H'->Q (.ref th) H'):qB Z (n+2) 488 [nu,.ref en] H Q qM:=
 kO T.hh T.ok (Zf T) (gA T) rfl λx e=>qN (.N9 rfl) (.N9 rfl)<|qN (.N9 rfl) (.N9 rfl)<|mE (λ_ _=>.N9 rfl) λa i _=>qN .R3 (.N9 rfl)<|wF (λ_ _=>.N9 rfl) λrd c _=>wF (λ_ _=>.N9 rfl) λb d _=>qN .R3 (.N9 rfl)<|qN .R3 (.N9 rfl)<|qN .R3 (.N9 rfl)<|qP ⟨rfl,by
  have g:qV MN H (H.xD 2 a []):=qV.refl.xD (.inr i);have h:=g.qQ (C:=36) (f:=[]) (.inr (g.fr _ c));have j:=h.qQ (C:=37) (f:=[]) (.inr (h.fr _ d));exact q x a rd b _ _ e (qJ ..) rfl rfl rfl rfl rfl (uF ..) (show(((H.xD 2 a []).qQ 36 rd []).qQ 37 b []).lst 36 rd=some [] from qT (qW ..)) (show(((H.xD 2 a []).qQ 36 rd []).qQ 37 b []).lst 37 b=some [] from qW ..) (j.qL (.inr e))⟩
theorem zO8(T:Z.xR){tk ck lm tl dl w lo ch:Addr}{ts:List Addr}{y K L:AV}(h:vM ts.length tk ck lm tl dl w lo ch ts y H)(hk:ts.length<50)
  (q:∀x t s ms f H',qD H x->iI ts.length 73 t s ms f->H'.obj 195 x=some f->H'.td 4 t=some []->H'.lst 11 s=some []->H'.lst 12 ms=some []->vM (ts.length+1) tk ck lm tl dl w lo ch (ts++[x]) y H'->qV MK H H'->Q (.ref x) H'):qB Z (n+3) 276 [.ref tk,K,.ref lm,L] H Q qM:=by
 obtain⟨g,u,C,M,N,D,O,P,R,S,U,d⟩:=h.tk;obtain⟨gl,z,V⟩:=h.li;refine uI T (Vd T) rfl<|wW (.val (.R6 (.uX (.R4 (.N9 rfl) u D) h.tl) (.R4 (.R4 (.N9 rfl) u C) z V) (cgA some (dcf (by rw[S6];omega)))) rfl)<|xF<|qE<|qR<|Gn (.N9 rfl) u d<|vU .nil<|uI T (mH T) rfl<|bT (.N9 rfl) u O .R3 rfl<|wB (.R4 (.N9 rfl) (qJ ..) rfl)<|vU (.cons (.N9 rfl) (.cons (.N9 rfl) .nil)) ?_;have v:qV MK H (H.qL 409 tk (up g 145 (.int (ts.length+1)))):=qV.refl.zR;have E:vM (ts.length+1) tk ck lm tl dl w lo ch ts y (H.qL 409 tk (up g 145 (.int (ts.length+1)))):=⟨⟨_,qJ ..,C,M,N,D,rfl,P,R,S,U,d⟩,h.ck.imp λf e=>⟨zF e.1,e.2⟩,h.lm.imp λf e=>⟨zF e.1,e.2⟩,h.li.imp λf e=>⟨zF e.1,e.2⟩,h.tl,h.dl,h.lo⟩;generalize H.qL 409 tk (up g 145 (.int (ts.length+1)))=G at v E⊢;refine Ga T λx t s ms f i F W X Y e3 e4 I _=>?_;have J:=E.keep I (by decide);have A:=v.trans (I.lE);refine cN J.lm λgm j m1 m2 m3=>?_;refine wY (a:=.bool false) (.vY (.R6 (.R4 (.N9 rfl) j m1) .R3 rfl) rfl) (.N9 rfl) X ?_;have k:qV {mo:=[195]} i (i.qL 195 x (up f 216 (.bool false))):=qV.refl.zR;have l:=qJ i 195 x (up f 216 (.bool false));have b:=J.keep k (by decide);have m:=k.P8 Y;have o:=k.zS e3;have p:=k.zS e4;have r:qV MK H (i.qL 195 x (up f 216 (.bool false))):=A.qL (.inr (v.fr _ F));have c:=k.yB j;generalize i.qL 195 x (up f 216 (.bool false))=H3 at l b m o p r c⊢;obtain⟨g2,B,n1,n2,n3,n4,n5,n6,n7,n8,n9,aa⟩:=b.tk;refine mN (.R4 (.N9 rfl) c m2) b.dl (.N9 rfl) (by rw[S6];omega)<|mN (.R4 (.N9 rfl) B n4) (vJ (t':=17) b.tl (.inl (by decide))) (.N9 rfl) (by rw[S6];omega)<|wB (.N9 rfl) (q x t s ms (up f 216 (.bool false)) _ (v.fr _ F) ⟨W.number,W.state,W.wake,W.answer,W.raised,rfl,W.inside,W.wL,W.wD,W.xK,W.wA⟩ l m (qT (qT o)) (qT (qT p)) ?_ ((r.zY).zY));exact⟨b.tk,b.ck,b.lm,b.li,(qW ..).trans (qX C8 rfl),(qT (qW ..)).trans (qX C8 rfl),qT (qT b.lo)⟩
noncomputable abbrev T4:=Addr×Addr×Addr×Addr
noncomputable def stF:Nat->Nat:=λ_=>73
theorem Made.add{d:List T4}{st:Nat->Nat}(h:Made d st H){H':St}{N:mM}(k:qV N H H')(t:195∉N.mo∧4∉N.mt∧11∉N.ml∧12∉N.ml){x j s ms:Addr}(r:qD H x)(W:iI d.length (st d.length) j s ms f)(u:H'.obj 195 x=some f)(v:H'.td 4 j=some [])(w:H'.lst 11 s=some [])(z:H'.lst 12 ms=some []):Made (d++[(x,j,s,ms)]) st H':=by
 have o:=h.keep k t;have l:∀(i:Nat)(y:T4),(d++[(x,j,s,ms)])[i]?=some y->d[i]?=some y∨(i=d.length∧y=(x,j,s,ms)):=λi y e=>by
  rcases Nat.lt_trichotomy i d.length with c|c|c
  ·rw[List.getElem?_append_left c] at e;exact .inl e
  ·rw[c,qT3 (Nat.le_refl _),Nat.sub_self] at e;exact .inr ⟨c,(B5 e).symm⟩
  ·rw[qT3 (Nat.le_of_lt c)] at e;rw[List.getElem?_eq_none (by rw[qZ3];lia)] at e;cases e
 refine⟨λi y e=>?_,λi y e=>?_,?_⟩
 ·rcases l i y e with e|p
  ·exact o.each i y e
  ·refine qK p λm n=>?_;clear p;subst m;subst n;exact qZ f u W
 ·rcases l i y e with e|q
  ·exact o.subs i y e
  ·refine qK q λm n=>?_;clear q;subst m;subst n;exact⟨v,w,z⟩
 ·refine qX C8 ?_;refine qZ0.mpr ⟨h.nd,by simp,?_⟩
  rintro a A b B rfl
  refine qY (T8.mp A) λy C m=>?_;subst m;refine zH (List.getElem?_of_mem C) λi D=>?_;refine qY (h.each i y D) λg E _=>?_;exact r.m8 E (B7.mp B)
theorem Wp{F:Fm}{R:Value->St->Prop}{m:M}{K:AV->St->Prop}{tg v:Nat}{b a:X}{N:Nat}(I:Nat->List AV->St->Prop)(hit:Rd Z n F R m H a (.int N))(s:N<1000)(g:I 0 [] H)
  (step:∀k acc H' K',k<N->I k acc H'->(∀y d,I (k+1) (acc++[y]) d->K' y d)->wE Z n F R b (M.one v (.int k)) K' H') (fin:∀acc H',I N acc H'->∀l,qD H' l->K (.ref l) (H'.qQ tg l acc)):
  wE Z n F R (.zO tg b (.one v) .dZ a .nil) m K H:=by
 refine hit _ ⟨N,rfl,Int.natCast_nonneg _,by lia,?_⟩;have e:lY (N:Int)=(B4 N).map λ(i:Nat)=>AV.int i:=by unfold lY;rw[Int.toNat_natCast]
 refine qX (e) ?_;refine⟨by rw[S6,B9];lia,lM I (λ_ _ _ _ _=>trivial) (λk x acc H' K' f i h=>?_) (λacc H' i=>fin acc H' (by rw[S6,B9] at i;exact i)) g⟩;rw[D4] at f;refine qY (B8.mp f) λj o p=>?_;subst p;refine zH (C7.mp o) λq c=>?_;rw[qW5] at c;subst c;exact jR.uK _ (fI (step k acc H' _ (by simpa using q) i λy d r=>h (some y) d r))
theorem Dt(T:Z.xR){F:Fm}{m:M}{K:AV->St->Prop}{tk ck lm tl dl p lo ch cT cS:Addr}{r:AV}{size:Nat}(Y:size<50)(A:F 151=some cT)(u:F 49=some cS)(E:H.qG 151 cT=some (some (.ref tk)))(v:H.qG 49 cS=some (some (.int size)))(h:vM 0 tk ck lm tl dl p lo ch [] r H)
  (q:∀b a H',a.length=size->Made a stF H'->vM size tk ck lm tl dl p lo ch (a.map (·.1)) r H'->qD H b->H'.lst 19 b=some (a.map λx=>.ref x.1)->qV MK H H'->K (.ref b) H'):
  wE Z (n+3) F qM (.zO 19 (.call (.R5 187 (.ref 276)) (.cons (.qG 151) (.cons (.R3 (.str 5)) (.cons (.R4 409 (.qG 151) 141) (.cons (.R3 (.int 1)) .nil))))) (.one 0) .dZ (.qG 49) .nil) m K H:=by
 refine Wp (λk c H'=>∃a:List T4,a.length=k∧Made a stF H'∧vM k tk ck lm tl dl p lo ch (a.map (·.1)) r H'∧c=(a.map λx=>AV.ref x.1)∧qV MK H H') (.qG u v) (by lia) (Eh ([]) rfl ⟨λi x e=>(nomatch e),λi x e=>(nomatch e),qX5⟩ h rfl qV.refl) ?_ ?_
 ·intro k c H1 K' hk B;refine K8 B λa w y t G d=>?_;clear B;subst w;subst G;intro I;refine wN0 t.tk λg J _ _ _ _ _ _ L _=>?_;have j:=d.qG _ _ _ E;refine qE<|vU (.cons (.qG A j) (.cons .R3 (.cons (.R4 (.qG A j) J L) (.cons .R3 .nil)))) ?_;have z:vM (a.map (·.1)).length tk ck lm tl dl p lo ch (a.map (·.1)) r H1:=by rw[S6];exact t
  refine zO8 T z (by rw[S6];lia) λx N s O f P Q W R S U V l o=>?_;rw[S6] at W l;refine I (.ref x) P (Eh (a++[(x,N,s,O)]) (by simp) (y.add o (by decide) Q W R S U V) ?_ (by rw[C8];rfl) (d.trans o));exact qX (C8) (l)
 ·intro c H1 C;refine K8 C λa X y t w d=>?_;clear C;subst w;intro b D;have o:qV {ml:=[19]} H1 (H1.qQ 19 b (a.map λx=>AV.ref x.1)):=qV.refl.zY;exact q b a _ X (y.keep o (by decide)) (t.keep o (by decide)) (d.fr _ D) (qW ..) (d.qQ (.inr (d.fr _ D)))
noncomputable def G7(j:Nat):Nat->Nat:=λi=>if i<j then 81 else 73
theorem Nj(T:Z.xR)(r:H.lst 19 b=some (xs.map λx=>.ref x.1))(A:Made xs stF H)(q:∀H',Made xs (λ_=>81) H'->qV {mo:=[195]} H H'->Q .none H'):qB Z (n+1) 283 [.none,.ref b] H Q qM:=by
 refine uI T (bM T) rfl<|kR (λj d H'=>Made xs (G7 j) H'∧qV {mo:=[195]} H H'∧d 181=some .none) (.N9 rfl) r (λj d H' _ i=>i.2.1.zS r) ?_ ⟨?_,qV.refl,rfl⟩ ?_
 ·intro j v d s K t u;refine wH u λa h k=>?_;clear u;intro B _;rw[D4] at t;refine qY (B8.mp t) λx l C=>?_;subst C;refine qY (a.each j x l) λf w W=>?_;have m:G7 j j=73:=D9 (Nat.lt_irrefl _);replace W:=m▸W;refine wI (.val (.R6 (.R4 (.N9 rfl) w W.state) .R5 rfl) rfl)<|wY .R5 (.N9 rfl) w<|qN (.N9 k) (.N9 rfl)<|wW (.val (.R6 (.N9 k) .R3 rfl) rfl)<|qP<|qP (B _ _ ⟨⟨λi y e=>?_,a.subs,a.nd⟩,h.zR,k⟩);by_cases c:i=j
  ·subst c;obtain rfl:=sj l e;have:G7 (i+1) i=81:=A3 (Nat.lt_succ_self _);refine qX (this) ?_;exact qZ _ (qJ ..) ⟨W.number,rfl,W.wake,W.answer,W.raised,W.Uh,W.inside,rfl,W.wD,W.xK,W.wA⟩
  ·refine qY (a.each i y e) λg o Wg=>?_;have D:G7 (j+1) i=G7 j i:=by
    unfold G7;by_cases p:i<j
    ·exact qX (A3 p) (qX (A3 (Nat.lt_succ_of_lt p)) rfl)
    ·exact qX (D9 p) (qX (D9 (by lia)) rfl)
   refine qX (D) ?_;refine qZ g (vI o (.inr λq=>c ?_)) Wg;have E:=a.nd;have a1:(xs.map (·.1))[i]?=some y.1:=qX (D4) (qX e rfl);have F:(xs.map (·.1))[j]?=some x.1:=qX (D4) (qX l rfl);replace a1:=q▸a1;exact(zZ1 (C7.mp a1).1 E).mp (a1.trans F.symm)
 ·have:G7 0=stF:=funext λi=>D9 (Nat.not_lt_zero _);exact qX (this) (A)
 ·intro d s z;refine wH z λa h _=>?_;clear z;refine qP (q s ⟨λi x e=>?_,a.subs,a.nd⟩ h);refine qY (a.each i x e) λg o Wg=>?_;have:G7 (xs.map λx=>AV.ref x.1).length i=81:=A3 (by rw[S6];exact(C7.mp e).1);replace Wg:=this▸Wg;exact qZ g o Wg
section
variable{Z:Ctx}{H:St}{F:Fm}{K:AV->St->Prop}
theorem kK.xV(h:kK wl ce H)(c:qD H d):kK wl ce (H.xV t d l):=by
 obtain⟨e,s,f,a,b⟩:=h;exact⟨e,s,f,(qV.refl (M:=MN).xV (.inr c)).Ps a,b⟩
theorem zF0{a:Addr}{ns:List Int}(k:m 120=some (.ref a))(j:lX Z a ns)(q:∀b c H',kK b c H'->qV MN H H'->K (.ref b) H'):
  wE Z n F qM (.dict 41 [65,50] (.cons (.zO 42 (.bin .mod (.N9 27) .Bu) (.one 27) (.lst 71) (.dX 71) .nil) (.cons (.R3 (.int 0)) .nil))) m K H:=by
 refine qR ⟨a,ns,k,j,λl o=>⟨l,rfl,_,qW ..,by rw[S6];exact Nat.lt_of_le_of_lt (qA5 ..) (by decide),?_⟩⟩;have d:qV MN H (H.qQ 71 l ((ns.take 63).map AV.int)):=qV.refl.qQ (.inr o);refine Q5 (l:=ns.take 63) (g:=AV.int) (λi=>some (.int (i% 1000000000))) (qW ..) (λi _=>.inl (zU _ rfl .uK (.bin (.N9 rfl) (λQ q=>q) rfl))) λc p=>vU (.cons .R3 .nil) λb hw=>?_;have e:(ns.take 63).filterMap (λi=>some (AV.int (i% 1000000000)))=((ns.take 63).map λi=>i% 1000000000).map AV.int:=qX qU8 (qX qZ7 rfl);refine qX (e) ?_;have h:=d.qQ (C:=42) (f:=((ns.take 63).map λi=>i% 1000000000).map AV.int) (.inr (d.fr _ p));refine q b c _ ⟨_,0,_,xA ..,rfl,Int.le_refl _,rfl,qW ..⟩ ?_;replace hw:=e▸hw;exact h.xV (.inr (h.fr _ hw))
theorem Y3(T:Z.xR){c g cW:Addr}(b:F 58=some cW)(e:H.qG 58 cW=some (some (.ref c)))(h:kK c g H)(q:∀d H' l(rl:Nat->Int),H'.sd 43 d=some l->(∀k∈jS,zE l k=some (.int (rl k))∧0≤rl k∧rl k≤3)->kK c g H'->qV MW H H'->K (.ref d) H'):
  wE Z (n+1) F qM (.eH 43 41 (.call (.R5 159 (.ref 574)) (.cons (.qG 58) (.cons (.R3 (.int 4)) .nil))) (.R3 (.str 6))) m K H:=by
 refine Gv ⟨trivial,_,rfl,_,rfl,qE<|vU (.cons (.qG b e) (.cons .R3 .nil))<|mC T h (by decide) λi v r w w1 a=>⟨trivial,_,rfl,_,rfl,qE<|vU (.cons (.qG b (a.qG _ _ _ e)) (.cons .R3 .nil))<|mC T w1 (by decide) λj y s z w2 f=>⟨trivial,_,rfl,_,rfl,qE<|vU (.cons (.qG b ((a.trans f).qG _ _ _ e)) (.cons .R3 .nil))<|mC T w2 (by decide) λk A t B w3 o=>⟨trivial,λd p=>?_⟩⟩⟩⟩;refine q d _ _ (λx=>if x=1 then i else if x=2 then j else k) (xA ..) (λx u=>?_) (w3.xV p) (((a.trans f).trans o).xV (.inr (((a.trans f).trans o).fr _ p)));have:x=1∨x=2∨x=3:=by simpa[jS] using u
 rcases this with rfl|rfl|rfl
 ·exact⟨rfl,r,by show i≤3;lia⟩
 ·exact⟨rfl,s,by show j≤3;lia⟩
 ·exact⟨rfl,t,by show k≤3;lia⟩
theorem Go(T:Z.xR){o s cW cS:Addr}{size:Nat}(E:F 58=some cW)(i:F 49=some cS)(I:H.qG 58 cW=some (some (.ref o)))(j:H.qG 49 cS=some (some (.int size)))(G:0<size)(t:size<1000)(h:kK o s H)
  (q:∀b(ps:List Addr) H',H'.lst 67 b=some (ps.map AV.ref)->ps.length=size->(∀p∈ps,∃a,H'.lst 46 p=some a∧a.length≤100∧∀r∈a,pV H'.tup size r)->kK o s H'->qV MW H H'->K (.ref b) H'):
  wE Z (n+2) F qM (.zO 67 (.call (.R5 177 (.ref 588)) (.cons (.qG 58) (.cons (.qG 49) .nil))) (.one 0) .dZ (.qG 49) .nil) m K H:=by
 refine Wp (λk c H'=>∃ps:List Addr,ps.length=k∧c=ps.map AV.ref∧(∀p∈ps,∃a,H'.lst 46 p=some a∧a.length≤100∧∀r∈a,pV H'.tup size r)∧kK o s H'∧qV MW H H') (.qG i j) t (Eh ([]) rfl rfl (λp l=>(nomatch l)) h qV.refl) ?_ ?_
 ·intro k c u K' R B;refine K8 B λps v J l w1 g=>?_;clear B;subst v;subst J;intro L;refine qE<|vU (.cons (.qG E (g.qG _ _ _ I)) (.cons (.qG i (g.qG _ _ _ j)) .nil))<|zT1 T w1 G λb a M C N O P w2 d=>L _ M (Eh (ps++[b]) (by simp) (qX C8 rfl) (λp e=>?_) w2 (g.trans d));rcases A4.mp e with w|w
  ·refine zX (l p w) λf x y z=>?_;exact zU f (d.zS x) y (λr A=>(z r A).keep d)
  ·exact qX (B7.mp w) ((zU a N O P))
 ·intro c u D;refine K8 D λps Q v l w1 g=>?_;clear D;subst v;intro b C;have d:qV {ml:=[67]} u (u.qQ 67 b (ps.map AV.ref)):=qV.refl.zY;refine q b ps _ (qW ..) Q (λp e=>?_) (w1.keep d (by decide) (by decide)) (g.qQ (.inr (g.fr _ C)));refine zX (l p e) λf x y z=>?_;exact zU f (d.zS x) y (λr A=>(z r A).keep d)
end
section
variable{Z:Ctx}{H:St}{F:Fm}{K:AV->St->Prop}
theorem Y4(h:k∉l.map (·.1)):qJ9 l k v=l++[(k,v)]:=D9 λe=>by
 refine qY (qK3.mp e) λp a q=>?_;exact h (T8.mpr (qZ p a (of_decide_eq_true q)))
theorem Y5:∀{l:List (Nat×AV)},(l.map (·.1)++r.map (·.1)).Nodup->r.foldl (λd p=>qJ9 d p.1 p.2) l=l++r:=by
 induction r with
 |nil=>intro l _;exact(E7 l).symm
 |cons p r a=>
  intro l h;have b:p.1∉l.map (·.1):=λq=>(qZ0.mp h).2.2 _ q _ T3 rfl;show r.foldl _ (qJ9 l p.1 p.2)=_;rw[Y4 b,a]
  ·exact qY5 l [p] r
  ·rw[C8,qY5];exact h
theorem Kj{tg a:Nat}{cS:Addr}{size:Nat}(b:F 49=some cS)(c:H.qG 49 cS=some (some (.int size)))(g:size≤100)(q:∀l H',H'.lst a l=some (C9 size v)->qV MN H H'->K (.ref l) H'):wE Z n F qM (.mulL tg a (.list tg (.cons (.R3 v) .nil)) (.qG 49)) m K H:=
 ⟨Nat.le_of_ble_eq_true rfl,λl e=>(Rd.qG b (by exact c)) _ (qZ l rfl (qZ v (qW ..) (rE size rfl (Int.natCast_nonneg _) (by lia) (λf d=>q f _ (qW ..) ((qV.refl.qQ (.inr e)).qQ (.inr ((qV.refl (M:=MN).qQ (.inr e)).fr _ d)))))))⟩
theorem zY2{cS:Addr}{size:Nat}(a:F 49=some cS)(b:H.qG 49 cS=some (some (.int size)))(e:size≤100)
  (q:∀bk bs bu ba bi bl bt l H',H'.sd 49 bk=some l->zE l 86=some (.ref bs)->zE l 92=some (.ref bu)->zE l 99=some (.ref ba)->zE l 48=some (.ref bi)->zE l 23=some (.ref bl)->zE l 54=some (.ref bt)->zE l 53=some (.int 0)->
   H'.lst 52 bs=some (C9 size (.str 81))->H'.lst 53 bu=some (C9 size .none)->H'.lst 54 ba=some (C9 size .none)->H'.lst 59 bi=some (C9 size (.bool false))->H'.lst 50 bl=some []->H'.lst 58 bt=some []->qV MN H H'->K (.ref bk) H'):
  wE Z n F qM (.dict 49 [86,92,99,48,23,54,53] (.cons (.mulL 72 52 (.list 72 (.cons (.R3 (.str 81)) .nil)) (.qG 49)) (.cons (.mulL 73 53 (.list 73 (.cons (.R3 .none) .nil)) (.qG 49)) (.cons (.mulL 74 54 (.list 74 (.cons (.R3 .none) .nil)) (.qG 49)) (.cons (.mulL 75 59 (.list 75 (.cons (.R3 (.bool false)) .nil)) (.qG 49)) (.cons (.list 50 .nil) (.cons (.list 58 .nil) (.cons (.R3 (.int 0)) .nil)))))))) m K H:=by
 refine qR (Kj a b e λbs y u g=>?_);refine qR (Kj a (g.qG _ _ _ b) e λbu z v h=>?_);refine qR (Kj a ((g.trans h).qG _ _ _ b) e λba A w i=>?_);refine qR (Kj a (((g.trans h).trans i).qG _ _ _ b) e λbi c x j=>?_);refine qR (wO λbl k=>?_);refine qR (wO λbt o=>?_);refine vU (.cons .R3 .nil) λbk p=>?_;refine qX (show vC (List.zip [86,92,99,48,23,54,53] [.ref bs,.ref bu,.ref ba,.ref bi,.ref bl,.ref bt,.int 0])=[(86,.ref bs),(92,.ref bu),(99,.ref ba),(48,.ref bi),(23,.ref bl),(54,.ref bt),(53,.int 0)] from Y5 (l:=[]) (show [86,92,99,48,23,54,53].Nodup by decide)) ?_;have r:=((g.trans h).trans i).trans j;have s:qV MN c (c.qQ 50 bl []):=qV.refl.qQ (.inr k);have t:qV MN c ((c.qQ 50 bl []).qQ 58 bt []):=s.qQ (.inr (s.fr _ o));have d:=t.xV (C:=49) (f:=[(86,.ref bs),(92,.ref bu),(99,.ref ba),(48,.ref bi),(23,.ref bl),(54,.ref bt),(53,.int 0)]) (.inr (t.fr _ p));refine q bk bs bu ba bi bl bt [(86,.ref bs),(92,.ref bu),(99,.ref ba),(48,.ref bi),(23,.ref bl),(54,.ref bt),(53,.int 0)] _ (xA ((c.qQ 50 bl []).qQ 58 bt []) ..) rfl rfl rfl rfl rfl rfl rfl ?_ ?_ ?_ (d.zS x) ?_ (qW (c.qQ 50 bl []) ..) (r.trans d)
 ·exact(((h.trans i).trans j).trans d).zS u
 ·exact((i.trans j).trans d).zS v
 ·exact(j.trans d).zS w
 ·exact(show((c.qQ 50 bl []).qQ 58 bt []).lst 50 bl=some [] from qT (qW ..))
end
noncomputable def Wh(n:Nat)(a:List T4)(rl:Nat->Int)(l:List Addr):xZ:=⟨n,λi=>(a.map (·.1)).getD i 0,λi=>(a.map (·.2.1)).getD i 0,λi=>(a.map (·.2.2.1)).getD i 0,λi=>(a.map (·.2.2.2)).getD i 0,rl,λi=>l.getD i 0,λ_=>0,.none⟩
noncomputable def t0:TT:=⟨λ_=>⟨.ready,none,.none,false⟩,[],[],0⟩
theorem qJ5{α β:Type}{l:List α}{f:α->β}{i:Nat}{x:α}{d:β}(h:l[i]?=some x):(l.map f).getD i d=f x:=by
 exact qX (qQ5) (qX (D4) (qX h rfl))
theorem eY{α β:Type}{l:List α}{f:α->β}{g:β->AV}{d:β}:l.map (λx=>g (f x))=(B4 l.length).map λi=>g ((l.map f).getD i d):=by
 apply qN8
 ·simp
 ·intro k a b;rw[S6] at a;simp only[qN3,qW5];exact qX (qJ5 (O8 a)) rfl
theorem eJ{α:Type}{n:Nat}{v:α}:C9 n v=(B4 n).map λ_=>v:=by
 apply qN8
 ·simp
 ·intro k a b;simp
section
variable{H:St}{P:xZ}
theorem zB9{n:Nat}{m:List T4}{rl:Nat->Int}{l:List Addr}{li dl lo q rd en J bl pb:Addr}{Fp:List Addr}{s:M}{w o:List (Nat×AV)}(hP:P=Wh n m rl l)(hx:m.length=n)(hn:n≤4)(L:Made m (λ_=>81) H)(D:vM n P.tk P.ck P.lm P.tl dl li lo P.choose (m.map (·.1)) (.ref P.again) H)
  (t1:H.obj 488 P.th=some s) (t2:s 115=some (.ref P.q)) (t3:s 147=some (.ref P.rd)) (t4:s 136=some (.ref P.en)) (t5:s 36=some (.ref J)) (t6:s 127=some .none) (t7:H.td 2 P.q=some []) (t8:H.lst 36 P.rd=some []) (t9:H.lst 37 J=some []) (T:H.lst 40 P.en=some [.str 1,.str 2,.str 3])
  (R:H.sd 43 P.rules=some w) (C:∀k∈jS,zE w k=some (.int (rl k))∧0≤rl k∧rl k≤3) (K:H.fn 195 P.again=some [(54,P.cT),(82,P.cR)]) (I:H.qG 82 P.cR=some (some (.ref P.rules))) (N:H.qG 54 P.cT=some (some (.ref P.told))) (S:∃l,H.tab 595=some l)
  (A:H.lst 47 P.told=some []) (z:H.lst 65 P.seen=some []) (G:H.fn 210 P.choose=some [(58,P.cW),(46,P.cS)]) (U:H.qG 58 P.cW=some (some (.ref P.well))) (Q:H.qG 46 P.cS=some (some (.ref P.seen))) (hw:kK P.well P.cells H)
  (O:H.lst 19 (P.ad 26)=some (m.map λx=>.ref x.1)) (V:∀p∈Fp,∃B,H.lst 46 p=some B∧B.length≤100∧∀r∈B,pV H.tup n r) (ab:Fp.length=n)
  (b1:H.sd 49 P.bk=some o) (b2:zE o 86=some (.ref P.bs)) (b3:zE o 92=some (.ref P.bu)) (b4:zE o 99=some (.ref P.ba)) (b5:zE o 48=some (.ref P.bi)) (b6:zE o 23=some (.ref bl)) (b7:zE o 54=some (.ref P.bt)) (b8:zE o 53=some (.int 0))
  (c1:H.lst 52 P.bs=some (C9 n (.str 81))) (c2:H.lst 53 P.bu=some (C9 n .none)) (c3:H.lst 54 P.ba=some (C9 n .none)) (c4:H.lst 59 P.bi=some (C9 n (.bool false))) (c5:H.lst 50 bl=some []) (c6:H.lst 58 P.bt=some []):
  Wl P (λi=>Fp.getD i 0) t0 n 0 0 H:=by
 subst hP;have v:∀i,i<n->∃x,m[i]?=some x:=λi t=>yU _ (O8 (by lia));have hC:h9 (Wh n m rl l) H:=by
  refine⟨λi j t X e=>?_,hn,λi t=>?_,?_,?_,t8,T,qZ w R (λk Y=>(C k Y).1),λk Y=>(C k Y).2,K,I,N,S⟩
  ·refine zH (v i t) λx c=>zH (v j X) λy E=>?_;have e:(m.map (·.1)).getD i 0=(m.map (·.1)).getD j 0:=e;rw[qJ5 c,qJ5 E] at e;have a1:(m.map (·.1))[i]?=some x.1:=qX (D4) (qX c rfl);have Z:(m.map (·.1))[j]?=some y.1:=qX (D4) (qX E rfl);replace a1:=e▸a1;exact(zZ1 (C7.mp a1).1 L.nd).mp (a1.trans Z.symm)
  ·refine zH (v i t) λx c=>?_;have:=L.subs i x c;show H.td 4 ((m.map (·.2.1)).getD i 0)=_∧H.lst 11 ((m.map (·.2.2.1)).getD i 0)=_∧H.lst 12 ((m.map (·.2.2.2)).getD i 0)=_;exact qX (qJ5 c) (qX (qJ5 c) (qX (qJ5 c) (this)))
  ·refine cN D.lm λf a _ _ b=>?_;exact qZ f a b
  ·have:=D.tl;replace this:=qZ7▸this;refine this.trans (cgA some ?_);have e:=eY (l:=m) (f:=(·.1)) (g:=AV.ref) (d:=0);replace e:=hx▸e;exact e
 refine⟨⟨hC,λi t=>?_,λa u=>(nomatch u),λa u=>(nomatch u),qX5,(qZ ([]) t7 ⟨qX5,qX5,λp hp=>(nomatch hp),λa u=>(nomatch u)⟩),?_,?_,zU s t1 ⟨t2,t3,t4,J,t5,t9⟩ t6,A⟩,⟨(xO o bl b1 ⟨b2,b3,b4,b5,b7,b8,b6⟩ (zU ([]) c5 (λp hp=>(nomatch hp)) rfl)),c1.trans (cgA some eJ),c2.trans (cgA some eJ),zU _ c3 (qK1 ..) (λi t=>qZ .none (qX (List.getElem?_replicate) (A3 t)) rfl),c4.trans (cgA some eJ),c6⟩,?_,?_,Nat.le_refl _,⟨λj X=>?_⟩,qZ _ rfl ?_,⟨hw,G,U,Q,[],z,Nat.le_refl _⟩⟩
 ·refine zH (v i t) λx c=>qY (L.each i x c) λf h1 W=>?_;have e1:(Wh n m rl l).ts i=x.1:=qJ5 c;have e2:(Wh n m rl l).qd i=x.2.1:=qJ5 c;have e3:(Wh n m rl l).sv i=x.2.2.1:=qJ5 c;have e4:(Wh n m rl l).ms i=x.2.2.2:=qJ5 c;refine qZ f (qX e1 h1) ⟨W.number,W.state,W.wake,qZ .none W.answer rfl,W.raised,qZ false W.Uh (λ_=>rfl),W.inside,W.wL,qX e2 W.wD,qX e3 W.xK,qX e4 W.wA⟩
 ·obtain⟨f,a0,a1,Z,a3,a4,a5,a6,a7,a8,a9,aa⟩:=D.tk;exact xO f lo a0 ⟨a4,a3,a7,a9,Z,a5,a8,yU 0 a6,aa⟩ D.lo
 ·exact D.ck
 ·exact⟨λa u=>(nomatch u),λi t=>⟨λh=>(nomatch h),λv0=>qY v0 λa u _=>(nomatch u)⟩,λa u=>(nomatch u),Nat.zero_le _,λi t _ _=>rfl,λi t h=>(nomatch h),qX5⟩
 ·rfl
 ·have F:j<Fp.length:=by have:j<n:=X;lia
  have e:Fp.getD j 0=Fp[j]:=qX (qQ5) (qX (O8 F) rfl);refine zX (V _ (qK4 F)) λB h1 h2 h3=>?_;exact zU B (by show H.lst 46 (Fp.getD j 0)=_;exact qX e h1) h2 h3
 ·refine O.trans (cgA some ?_);have e:=eY (l:=m) (f:=(·.1)) (g:=AV.ref) (d:=0);replace e:=hx▸e;exact e
end
section
variable{P:xZ}{τ:TT}
theorem Nv(W:τ.Wf P)(h:τ.turn P=.go τ'):τ'.Wf P∧τ'.next P=none∧qP7 P.n τ'∧τ'.told.length+τ'.asks.length≤τ.told.length+τ.asks.length:=by
 have b:=mD W;have e:=gK (P:=P) (τ:=τ);by_cases a:(τ.first P).zB P.n=[]
 ·by_cases c:(τ.first P).yN P.n=[]
  ·exact Turn.noConfusion ((gV a c).symm.trans h)
  ·cases f:qY7 ((τ.first P).yV P.n) with
   |none=>exact Turn.noConfusion ((lR a c f).symm.trans h)
   |some w=>
    rw[gU a c f] at h;cases h;have d:=Kz b w;exact⟨Wf.zJ d,uE d.len,qP7.zJ (Nat.le_refl _) ((vK W).yZ b (Nat.le_refl _) w) d,Nat.le_trans uA (Nat.le_trans (Wz w) e)⟩
 ·rw[cL a] at h;cases h;exact⟨b,Wq W,vK W,e⟩
end
noncomputable def Y6:Tt:=.or (.cons (.val (.R6 (.Ay 47 58) (.qG 54) (.qA 49 (.qG 25) (.R3 (.str 54))))) (.cons (.val (.R6 .tU (.R4 31 (.R4 409 (.qG 151) 66) 14) (.qA 49 (.qG 25) (.R3 (.str 53))))) (.cons (.val (.R6 (.neD 44 45) (.call (.R5 211 (.ref 593)) (.cons (.N9 90) .nil)) (.call (.R5 223 (.ref 612)) (.cons (.qG 25) .nil)))) .nil)))
noncomputable def Wm:Ss:=.cons (.ite Y6 (.cons (.ret (.R3 (.bool false))) .nil) .nil) (.cons (.ite (.val (.R6 .By (.N9 51) (.R3 .none))) (.cons (.ret (.R6 (.N5 60) (.N9 7) (.R3 (.str 43)))) .nil) .nil) (.cons (.R7 (.N9 19) (.bin .sub (.R4 195 (.N9 51) 113) (.R3 (.int 1))))
 (.cons (.ite (.or (.cons (.val (.R6 (.Ay 66 60) (.wZ 65 (.qG 46) (.neg 1)) (.N9 7))) (.cons (.not (.val (.call (.R5 178 (.ref 643)) (.cons (.qG 151) (.cons (.N9 90) (.cons (.N9 125) (.cons (.qG 25) (.cons (.qG 82) (.cons (.qG 54) (.cons (.wZ 67 (.N9 167) (.N9 19)) (.cons (.N9 19) .nil))))))))))) .nil))) (.cons (.ret (.R3 (.bool false))) .nil) .nil) .nil)))
structure G8(P:xZ)(F:Fm)(cTk cBk cSz:Addr)(H:St):Prop where
 f1:F 54=some P.cT
 f2:F 82=some P.cR
 f3:F 46=some P.cS
 f4:F 151=some cTk
 f5:F 25=some cBk
 f6:F 49=some cSz
 c4:H.qG 151 cTk=some (some (.ref P.tk))
 c5:H.qG 25 cBk=some (some (.ref P.bk))
 c6:H.qG 49 cSz=some (some (.int P.n))
theorem G8.keep{P:xZ}{F:Fm}{b a c:Addr}{H H':St}{M:mM}(h:G8 P F b a c H)(k:qV M H H'):G8 P F b a c H':={h with c4:=k.qG _ _ _ h.c4,c5:=k.qG _ _ _ h.c5,c6:=k.qG _ _ _ h.c6}
structure P5(P:xZ)(pr:Nat->Addr)(pg:Addr)(m:M)(H:St):Prop where
 m1:m 90=some (.ref P.th)
 m2:m 125=some (.ref (P.ad 26))
 m3:m 167=some (.ref pg)
 pg:H.lst 67 pg=some ((B4 P.n).map λi=>.ref (pr i))
theorem P5.keep{P:xZ}{a:Nat->Addr}{pg:Addr}{m:M}{H H':St}{M:mM}(h:P5 P a pg m H)(k:qV M H H')(b:67∉M.ml):P5 P a pg m H':={h with pg:=k.lst _ b _ _ h.pg}
theorem P5.N9{P:xZ}{a:Nat->Addr}{b:Addr}{H:St}(h:P5 P a b m H)(c:k∉[90,125,167]):P5 P a b (up m k v) H:=by
 have e:∀j,j∈[90,125,167]->up m k v j=m j:=λj d=>D9 (λq:j=k=>c (q▸d));exact⟨(e _ (by decide)).trans h.m1,(e _ (by decide)).trans h.m2,(e _ (by decide)).trans h.m3,h.pg⟩
theorem Y7(T:Z.xR)(I:zW P τ eQ 0 H)(b:wP P τ H)(a:τ.asks.length<1000)(C:G8 P F cTk cBk cSz H)(o:m 90=some (.ref P.th)){K:Bool->St->Prop}(q:∀H',qV MN H H'->K false H'):wT Z (n+2) F qM Y6 m K H:=by
 refine wV b.bk λl bl h j _=>wV I.tk λt lo p r _=>qY I.ck λg s c=>?_;refine c9<|mS<|xM<|rd (.R6 (.qG C.f1 I.C.cT) (.qA (.qG C.f5 C.c5) .R3 h j.to) (?_:_=some false)) (qZ _ rfl (mR<|mS<|xM<|rd (.R6 (.R4 (.R4 (.qG C.f4 C.c4) p r.bB) s c) (.qA (.qG C.f5 C.c5) .R3 h j.ti) (?_:_=some false)) (qZ _ rfl (mR<|mS<|xM<|kU<|qE<|vU (.cons (.N9 o) .nil)<|cV T I λd y e u=>qE<|vU (.cons (.qG C.f5 (e.qG _ _ _ C.c5)) .nil)<|fY T (b.keep (e.lE)) a λz v k f=>qZ _ (zZ8 (k.Ps u) f) (qZ _ rfl (mR<|Ut<|q v (e.trans k)))))))
 ·show((H.lst 47 P.told).bind λw=>(H.lst 58 P.bt).bind λx=>(Xi w x).map not)=_;refine qX (I.told) (qX (b.bt) ?_);show(Xi (τ.told.map λ(i:Nat)=>AV.int i) (τ.told.map λ(i:Nat)=>AV.int i)).map not=_;rw[Wu];rfl
 ·show(some (decide (τ.time=τ.time))).map not=_;exact qX (dct rfl) rfl
theorem Fq(T:Z.xR)(I:zW P τ eQ 0 H)(b:wP P τ H)(a:τ.asks.length<1000)(C:G8 P F cTk cBk cSz H)(e:m 90=some (.ref P.th))(c:m 51=some .none)(d:m 7=some (.str 43)){Q:Fl->M->St->Prop}(q:∀H',qV MN H H'->Q (.ret (.bool true)) m H'):O6 Z (n+2) F qM Wm m Q H:=
 jV<|Y7 T I b a C e λf g=>mR<|qP<|wI (.val (.R6 (.N9 c) .R3 rfl) rfl)<|wB (.R6 (.N9 d) .R3 rfl) (q f g)
theorem Db(T:Z.xR){N B:Nat}{d:Nat}(h:Kq P τ eQ B d H)(b:wP P τ H)(W:τ.Wf P)(x:τ.next P=none)(v:qP7 P.n τ)(k:τ.told.length+τ.asks.length≤N)(O:N<800)(w:pU P.n pr H)(r:H.lst 19 (P.ad 26)=some ((B4 P.n).map λi=>.ref (P.ts i)))(K:∀j,P.ins j=0)(u:P.wr=.none)
  (C:G8 P F cTk cBk cSz H) (D:P5 P pr pg m H) (G:m 51=some (.ref (P.ts d))) {t:Addr} (L:m 7=some (.ref t)) (s:H.lst 60 t=some ((τ.zB P.n).map λ(i:Nat)=>.int i)) {Q:Fl->M->St->Prop}
  (q:∀g a m' H',Wl P pr g a (N+1) (B+1) H'->G8 P F cTk cBk cSz H'->P5 P pr pg m' H'->qV MA H H'->Q .next m' H'):O6 Z (n+10) F qM Wm m Q H:=by
 refine qK (jH.mp h.mem) λo I=>?_;have y:τ.asks.length<1000:=by lia
 refine jV<|Y7 (n:=n+8) T h.I b y C D.m1 λH1 c=>mR<|qP<|wW (.val (.R6 (.N9 G) .R3 rfl) rfl) ?_;have p:=h.I.keep (c.lE);have J:Wl P pr τ eQ N (B+1) H1:=⟨p,b.keep (c.lE),W,x,k,w.keep c (by decide),qZ _ rfl (c.zS r),h.C.keep c (by decide) (by decide) (by decide)⟩;have e:=C.keep c;have l:=D.keep c (by decide);refine qY (p.task d o) λf R Wk=>yX h.seen λS z U V=>?_;refine jW (.bin (.R4 (.N9 G) R Wk.number) .R3 (cgA some (Int.add_sub_cancel ..)))<|jV<|c9<|mS<|xM<|rd (.R6 (.wZ (.qG e.f3 J.C.cs) .neg (c.zS U) (?_:_=some (.ref z))) (.N9 L) (?_:_=some false)) (qZ _ rfl (mR<|mS<|Md<|xM<|qE<|vU (.cons (.qG e.f4 e.c4) (.cons (.N9 (l.N9 (by decide)).m1) (.cons (.N9 (l.N9 (by decide)).m2) (.cons (.qG e.f5 e.c5) (.cons (.qG e.f2 p.C.cR) (.cons (.qG e.f1 p.C.cT) (.cons (.wZ (.N9 (l.N9 (by decide)).m3) (.N9 rfl) l.pg (Wj o)) (.cons (.N9 rfl) .nil))))))))<|wX8 T J O K u o I ?_ λg a X Y A=>qZ _ rfl (mR<|Ut<|mR<|qP<|qP<|q g a _ X Y (e.keep A) ((l.N9 (by decide)).keep A (by decide)) ((c.lE).trans A))))
 ·show(S++[AV.ref z]).getLast?=_;exact qX (List.getLast?_append) rfl
 ·show((H1.lst 66 z).bind λvs=>(H1.lst 60 t).bind λus=>(Xi vs us).map not)=_;refine qX (c.zS V) (qX (c.zS s) ?_);show(Xi ((τ.zB P.n).map λ(i:Nat)=>AV.int i) ((τ.zB P.n).map λ(i:Nat)=>AV.int i)).map not=_;rw[Wu];rfl
 ·have:=(v d o).2;unfold lQ.xX at this;have E:=I;replace this:=E▸this;simpa using this
section
open PySem.Calls PySem.Spec
noncomputable def uP(a:List AV)(k:Nat):List AV:=(B4 k).filterMap λ(i:Nat)=>if a[i]?=some (AV.str 32) then none else some (AV.int ((i:Int)+1))
theorem Fz(a:List AV)(k:Nat):uP a (k+1)=uP a k++(if a[k]?=some (.str 32) then(none:Option AV) else some (.int ((k:Int)+1))).toList:=by
 unfold uP;refine qX (List.range_succ) (qX (qY3) ?_);refine cgA _ ?_;by_cases c:a[k]?=some (AV.str 32)
 ·simp[c]
 ·simp[c]
theorem Nu(a:List AV)(k:Nat):(uP a k).all qX3=true:=by
 refine D5.mpr λx b=>?_;refine qY (qA8.mp b) λi _ h=>?_;split at h
 ·exact uZ h
 ·cases h;rfl
theorem Fw(h:vs.all qX3=true):Xi vs vs=some true:=by
 unfold Xi;refine qX (A3 rfl) (qX (h) ?_);simp
section
variable{Z:Ctx}{ks:List (Str×NameKind)}
theorem wP5{R:Value->St->Prop}{H:St}{K:Bool->St->Prop}(h:Rd Z n F R m H x v)(a:qL1 H v=some b)(k:K b H):xT Z n F R (.cons (.val x) .nil) m K H:=by
 refine jR.val h a _ ?_;cases b
 ·show(if false=true then _ else _);exact qX (D9 Bool.false_ne_true) (k)
 ·show(if true=true then _ else _);exact qX (A3 rfl) (k)
@[elab_as_elim] theorem Y8{K:Frag}{a:Nat}(l:List Stmt){P:List Stmt->Prop}(h:Zq K ks a l=true)
  (k:∀tg v y u s x f t g i j,hM K ks (.N9 152) (.zO 76 l8 (.one 4) .dZ (.qG 49) (.cons (.val Pp) .nil)) tg v=true->yJ K hIf ks i=true->yJ K l9 ks j=true->(qU1 .Eq (.Name (nm 152) g)==false)=true->gN (.Name (nm a) f)=true->a<NN->ks.lookup (nm a)=some .local->152<NN->ks.lookup (nm 152)=some .local->
   P [.Assign [tg] v y,.Return (some (.BoolOp .And [i,.Compare (.Attribute (.Name (nm a) f) (nm 89) t) [.Eq] [.Name (nm 152) g] x,j] s)) u]):P l:=by
 refine xP h λW X z=>?_;refine xP z λY Z A=>?_;clear h z;refine vG A λc B C=>?_;obtain rfl:=E6.mp c;clear c A;refine nK B λQ v y h=>jZ h λtg c=>tR C λw u h=>dU h λw h=>pE h λo vs s h=>xJ h λh d=>rX h ?_;clear B C;refine xP d λi R D=>?_;refine xP D λe2 R E=>?_;refine jZ E λj F=>?_;clear d D E;refine vG F λd S G=>?_;clear F;refine tW (iJ G) λl2 os rs x b H=>?_;subst b;refine jZ H λo I=>?_;refine jZ I λr J=>?_;clear G H I;refine tM J λL T U e=>?_;clear J;obtain rfl:=beq_iff_eq.mp L;clear L;refine tN e λbs M t N=>?_;clear e;refine vG N λe V O=>Lr O ?_;clear N O;refine zX (kG e) λf b m n=>?_;subst b;refine zX (kG U) λg b p q=>?_;subst b;exact k _ _ _ _ _ _ _ _ _ _ _ c d S T V m n p q
theorem Dc{R:Value->St->Prop}{b st f:Addr}{bl:List (Nat×AV)}{a:List AV}{H:St}{k c:Nat}{K:Option AV->St->Prop}(e:F 25=some f)(m:H.qG 25 f=some (some (.ref b)))(s:H.sd 49 b=some bl)(l:zE bl 86=some (.ref st))(r:H.lst 52 st=some a)(h:a[k]?=some (.str c))
  (g:∀o,uP a (k+1)=uP a k++o.toList->K o H):xT Z n F R (.cons (.val Pp) .nil) (M.one 4 (.int k)) (λb i=>if b=true then wE Z n F R l8 (M.one 4 (.int k)) (λy p=>K (some y) p) i else K none i) H:=by
 have t:uC a (k:Int)=some (.str c):=by
  unfold uC;rw[D9 (by lia),A3 (by exact Int.NonNeg.mk (k+0)),Int.toNat_natCast];exact h
 have j:(M.one 4 (.int (k:Int))) 4=some (.int (k:Int)):=A3 rfl;refine wP5 (Rd.R6 (op:=.tU) (x:=.str c) (y:=.str 32) (Rd.wZ (Rd.qA (Rd.qG e m) Rd.R3 s l) (Rd.N9 j) r t) Rd.R3 rfl) (b:=!decide (c=32)) rfl ?_;have ws:=Fz a k;replace ws:=h▸ws;by_cases d:c=32
 ·refine qX (dct d) ?_;refine qX (D9 Bool.false_ne_true) ?_;rw[d,A3 rfl] at ws;exact g none ws
 ·refine qX (dcf d) ?_;refine qX (A3 rfl) ?_;rw[D9 λq=>d (AV.str.inj (B5 q))] at ws;exact Rd.bin (.N9 j) .R3 rfl _ (g (some (.int ((k:Int)+1))) ws)
theorem Y9(O:Z.Ok){e st b cS J:Addr}{f m:M}{N:Nat}{bl:List (Nat×AV)}{d:List AV}{H:St}{tg v:Expr}{p:Pos}(h:zV eV F ks)(ok:hM Z.K ks (.N9 152) (.zO 76 l8 (.one 4) .dZ (.qG 49) (.cons (.val Pp) .nil)) tg v=true)
  (A:F 49=some cS) (u:F 25=some J) (P:N<1000) (h1:H.qG 49 cS=some (some (.int N))) (h2:H.qG 25 J=some (some (.ref b)))
  (h4:H.sd 49 b=some bl) (h5:zE bl 86=some (.ref st)) (h7:H.lst 52 st=some d) (hs:∀i,i<N->∃c,d[i]?=some (.str c)) (z:H.exc 119 e=some f):
  qF (Z.held e) n eV.locals m (exec (.Assign [tg] v p) eV) H (FQ λB m' H'=>B=.next∧∃y,m'=up m 152 (.ref y)∧H'=H.qQ 76 y (uP d N)) qM:=by
 have l:(Z.held e).Ok:=Vs O;refine Li tg v ok λyp R t iter S D T U hl L g6 g7=>?_;refine eO (Z:=Z.held e) (tag:=76) (.inr (yU _ rfl)) l h L.S (Q:=FQ λB m' H'=>B=.next∧∃y,m'=up m 152 (.ref y)∧H'=H.qQ 76 y (uP d N)) (IT:=λm' q H'=>xT (Z.held e) n F qM (.cons (.val Pp) .nil) m' q H') (El:=λm' q H'=>wE (Z.held e) n F qM l8 m' q H') U hl g6 g7 L.p L.t
  (λC m' q H' E=>zK9 l (.R6 (.wZ (.qA .qG .R3) .N9) .R3) L.i (vD h L.S C) E) (λC m' q H' E=>soC l (.bin .N9 .R3) L.e (vD h L.S C) E) ?_
 have G:=L.it;refine Qr (e:=iter) (f:=yJ Z.K (.qG 49) ks) (show U6 Z.K ks 80 iter (λr=>wC r (yJ Z.K (.qG 49) ks))=true from G) λp a ip i4 i2 i3 i5=>Ix (inv:=λH=>∃C f,H.exc C e=some f) (λ_ _=>Wk.rngH) l h i2 i3 i4 (R9.Qb (soC (Z:=Z.held e) l .qG i5 h (Rd.qG A h1 _ ⟨rfl,rfl⟩)) λv i=>rE N i (Int.natCast_nonneg _) (Int.lt_trans (Int.ofNat_lt.mpr P) (by decide)) ?_);have V:lY (N:Int)=(B4 N).map λ(i:Nat)=>AV.int i:=by unfold lY;rw[Int.toNat_natCast]
 have W:(lY (N:Int)).length=N:=by rw[V,S6,B9]
 refine⟨qX W (Nat.lt_trans P (by decide)),lM (λk g I=>I=H∧g=uP d k) (λ_ _ _ _ i=>Jj _ _ (i.1▸z)) (λk x g I K X i kn=>?_) (λg I i y U=>⟨rfl,y,rfl,?_⟩) ⟨rfl,rfl⟩⟩
 ·rw[V,D4] at X;obtain⟨j,hj,rfl⟩:=B8.mp X;obtain⟨Y,s⟩:=C7.mp hj;rw[qW5] at s;subst s;obtain⟨c,hc⟩:=hs k (by rw[B9] at Y;exact Y);refine qX (i.1) ?_;exact Dc u h2 h4 h5 h7 hc λo w=>kn o H ⟨rfl,qX i.2 (qX w rfl)⟩
 ·exact qX (i.1) (qX (i.2) (qX (W) rfl))
theorem J3(O:Z.Ok){e l b t h y I cT:Addr}{f m:M}{c:Nat}{bl:List (Nat×AV)}{ts ws:List AV}{H:St}{K L:Expr}{p3 J g q k:Pos}(d:zV eV F ks)(hX:jG Z.K 119 89)
  (o1:yJ Z.K hIf ks K=true) (U:yJ Z.K l9 ks L=true) (hm:(qU1 .Eq (.Name (nm 152) k)==false)=true) (N:gN (.Name (nm c) g)=true) (k1:c<NN) (k2:ks.lookup (nm c)=some .local) (k3:152<NN) (S:ks.lookup (nm 152)=some .local)
  (o:F 25=some I) (C:F 54=some cT) (T:H.qG 25 I=some (some (.ref b))) (R:H.qG 54 cT=some (some (.ref t)))
  (X:H.sd 49 b=some bl) (h6:zE bl 54=some (.ref h)) (V:H.lst 47 t=some ts) (W:H.lst 58 h=some ts) (hi:ts.all qX3=true)
  (s:H.exc 119 e=some f) (w:f 89=some (.ref l)) (z:H.lst 33 l=some ws) (p:H.lst 76 y=some ws) (Y:ws.all qX3=true) (Q:m 7=some (.str 88)) (P:m c=some (.ref e)) (mw:m 152=some (.ref y)):
  R9 (Z.held e) n (some (eV.locals,m)) (eval (.BoolOp .And [K,.Compare (.Attribute (.Name (nm c) g) (nm 89) q) [.Eq] [.Name (nm 152) k] J,L] p3) eV) H (VQ λa H'=>a=.bool true∧H'=H) qM:=by
 have j:(Z.held e).Ok:=Vs O;have A:R9 (Z.held e) n (some (eV.locals,m)) (eval (.Attribute (.Name (nm c) g) (nm 89) q) eV) H (VQ λa D=>a=.ref l∧D=H) qM:=
  Os N (R9.Qb (Xo d k1 k2 P ⟨rfl,rfl⟩) λv i=>pQ i (l4 j hX (by decide) s w ⟨rfl,rfl⟩))
 have B:R9 (Z.held e) n (some (eV.locals,m)) (eval (.Compare (.Attribute (.Name (nm c) g) (nm 89) q) [.Eq] [.Name (nm 152) k] J) eV) H (VQ λa D=>a=.bool true∧D=H) qM:=by
  refine At (.inr trivial) (A.Qb λv ia=>wG0 hm (R9.Qb (Xo d k3 S mw ⟨rfl,rfl⟩) λu ib=>Am (op:=.iU 33 76) (r:=true) j ia ib ?_ ⟨rfl,rfl⟩));show(H.lst 33 l).bind (λE=>(H.lst 76 y).bind λG=>Xi E G)=_;exact qX (z) (qX (p) (Fw Y))
 refine Ad (R9.Qb (soC j (.R6 .N9 .R3) o1 d (Rd.R6 (.N9 Q) .R3 rfl _ ⟨rfl,rfl⟩)) λv i=>lV i (b:=true) rfl (Ad (B.Qb λv i=>lV i (b:=true) rfl ?_)));refine soC j (.R6 .qG (.qA .qG .R3)) U d (Rd.R6 (x:=.ref t) (y:=.ref h) (Rd.qG C R) (Rd.qA (Rd.qG o T) Rd.R3 X h6) ?_ _ ⟨rfl,rfl⟩);show(H.lst 47 t).bind (λE=>(H.lst 58 h).bind λG=>Xi E G)=_;exact qX (V) (qX (W) (Fw hi))
theorem Dd(O:Z.Ok){e l st b t D cS z cT:Addr}{f m:M}{N:Nat}{k:Nat}{bl:List (Nat×AV)}{g ts:List AV}{H:St}{d:List Stmt}(A:zV eV F ks)(S:Zq Z.K ks k d=true)(U:jG Z.K 119 89)
  (o:F 49=some cS) (h:F 25=some z) (u:F 54=some cT) (V:N<1000) (T:H.qG 49 cS=some (some (.int N))) (B:H.qG 25 z=some (some (.ref b))) (I:H.qG 54 cT=some (some (.ref t)))
  (C:H.sd 49 b=some bl) (E:zE bl 86=some (.ref st)) (P:zE bl 54=some (.ref D)) (L:H.lst 52 st=some g) (R:∀i,i<N->∃c,g[i]?=some (.str c)) (J:H.lst 47 t=some ts) (K:H.lst 58 D=some ts) (hi:ts.all qX3=true)
  (j:H.exc 119 e=some f) (r:f 89=some (.ref l)) (s:H.lst 33 l=some (uP g N)) (G:m 7=some (.str 88)) (Q:m k=some (.ref e)) (p:k≠152):
  qF (Z.held e) n eV.locals m (qQ8 d eV) H (λw _ H'=>∃v,w=.ret v∧Is v (.bool true)∧∃y vs,H'=H.qQ 76 y vs) qM:=by
 refine Y8 d S λtg v p1 p2 p3 p4 p5 p6 p7 e1 e3 x W X Y hb k1 k2 k3 k4=>yK ((Y9 O A x o h V T B C E L R j).qq λw m' H1 q=>?_);cases w with
 |ret v=>exact q.elim λa q=>nomatch q.2.1
 |brk=>exact nomatch q.1
 |cont=>exact nomatch q.1
 |next=>
 refine qY q.2 λy z1 z2=>?_;subst z1;subst z2;exact yK ((Iq ((J3 (H:=H.qQ 76 y (uP g N)) O A U W X Y hb k1 k2 k3 k4 h u B I C P J K hi j r s (qW ..) (Nu g N) ((D9 (by decide)).trans G) ((D9 p).trans Q) (A3 rfl)).vq λv a H1 i q=>zU v rfl (q.1▸i) (Jj y _ q.2))))
end
end
structure U8(K:Frag):Prop where
 x:Ro K 119 116=true
 i1:iS K=true
 i0:bG K=true
 f:Yn K=true
 g:Pu K 80 77=true
 k:qH1 K (.ref 77)=true
 a1:bL K 119 52=true
 a2:bL K 119 89=true
 p1:Vn K=true
 p2:Vr K=true
def J4(P:xZ)(τ:TT)(a:Int)(H:St)(e:Value)(H':St):Prop:=∃x f l,e=.ref x∧H'.exc 119 x=some f∧f 89=some (.ref l)∧H'.lst 33 l=some ((τ.yN P.n).map λ(i:Nat)=>.int (i+1))∧zW P τ a 0 H'∧qV MP H H'
section
variable{Z:Ctx}{P:xZ}{τ:TT}
theorem qV.xU{M:mM}{b:St}{C:Nat}(k:qV M H b):qV M H (b.xU C x f):=⟨k.obj,k.lst,k.sd,k.td,k.tup,k.qG,k.fn,k.tab,λa h=>k.fr a ⟨h.obj,h.lst,h.tup,h.sd,h.td,h.yT,h.qG,h.fn⟩⟩
theorem Kv(T:Z.xR)(X:U8 Z.K)(I:zW P τ eQ 0 H)(m:qY7 (τ.yV P.n)=none)(o:∀e H',R e H'->∃a C g,e=.ref a∧H'.exc C a=some g)(q:∀e H',J4 P τ eQ H e H'->R e H'):qB Z (n+4) 428 [.ref P.tk] H (λ_ _=>False) R:=by
 refine wV I.tk λt lo p r _=>?_;have nA:fN Z.K 119=true:=(qO (qO (qO X.x).1).1).1;refine wV1 T.hh T.ok X.p1 o (qE (k:=188) (F:=λ_=>none)<|qR<|vH (λi=>some (dS (τ.t i).wake)) (.R4 (.N9 rfl) p r.tasks) I.C.tl (qX B9 (Nat.lt_of_le_of_lt I.C.small (by decide))) (λi s=>?_) λb h=>vU .nil ?_)
 ·refine qY (I.task i (jU s)) λf c Wk=>?_;exact .inl (zU _ rfl .uK (.R4 (.N9 rfl) c Wk.wake))
 have e:(B4 P.n).filterMap (λi=>some (dS (τ.t i).wake))=(τ.yV P.n).map dS:=by
  unfold TT.yV;refine qX (qZ7) (qX (qU8) ?_);rfl
 have u:qV MP H (H.qQ 1 b ((B4 P.n).filterMap λi=>some (dS (τ.t i).wake))):=qV.refl.qQ (.inr h);have j:=I.keep (qV.refl.qQ (C:=1) (a:=b) (f:=(B4 P.n).filterMap λi=>some (dS (τ.t i).wake)) (.inr h));refine aG T (ws:=τ.yV P.n) ((qW ..).trans (cgA some e)) ?_;refine qX (m) ?_;refine⟨rfl,jR.val (Rd.R6 (y:=.none) (Rd.N9 (rfl:(up (M.one 151 (.ref P.tk)) 53 .none) 53=some .none)) Rd.R3 rfl) rfl _ ⟨rfl,?_⟩⟩;refine qE (k:=156)<|qR<|qE (k:=241)<|vU (.cons (.N9 rfl) .nil)<|Yc T j λw v l d=>vU .nil<|Mu T.hh T.ok X.x X.i1 X.i0 X.f X.g X.k (dP X.a1) (dP X.a2) λx f c=>Km x 119 f rfl (bK ..) nA (q _ _ (cM x f w rfl (bK ..) c d ?_ ?_))
 ·exact(j.keep (l.lE)).keep qV.refl.xU
 ·exact(u.trans (l.lE)).xU
theorem aH(h:τ.turn P=.stuck τ'):(τ.first P).zB P.n=[]∧(τ.first P).yN P.n≠[]∧qY7 ((τ.first P).yV P.n)=none∧τ'=τ.first P:=by
 by_cases a:(τ.first P).zB P.n=[]
 ·by_cases b:(τ.first P).yN P.n=[]
  ·exact Turn.noConfusion ((gV a b).symm.trans h)
  ·cases c:qY7 ((τ.first P).yV P.n) with
   |none=>obtain rfl:=Turn.stuck.inj ((lR a b c).symm.trans h);exact⟨a,b,rfl,rfl⟩
   |some w=>exact Turn.noConfusion ((gU a b c).symm.trans h)
 ·exact Turn.noConfusion ((cL a).symm.trans h)
theorem zF6(T:Z.xR)(X:U8 Z.K)(I:zW P τ eQ 0 H)(W:τ.Wf P)(o:∀i,P.ins i=0)(r:τ.told.length+τ.asks.length<1000)(p:τ.next P=none){B:Nat}(C:lN P B H)(j:B<100000){b:TT}(h:τ.turn P=.stuck b){R:Value->St->Prop}(d:∀e H',R e H'->∃a C g,e=.ref a∧H'.exc C a=some g)(q:∀e H',J4 P b eQ H e H'->R e H'):
  qB Z (n+9) 449 [.ref P.tk] H (λ_ _=>False) R:=by
 refine jL (aH h) λs t u v=>?_;subst v;refine wL0 T.hh T.ok X.p2 d ?_;refine Z3 T I W o (by decide) r (by rw[Nat.zero_add];exact rD W p) C j (m:=M.one 151 (.ref P.tk)) rfl (λw y H' c k=>absurd s (qV7 c.mem)) (λ_ z=>absurd z t) λ_ _ y H' A D S E=>qP ⟨rfl,A,?_⟩;refine Kv (n:=n+4) T X D u d λe F G=>q e F ?_;refine tZ G λx f l J K L N O Q=>?_;exact cM x f l J K L N O (E.trans Q)
end
section
open PySem.Calls PySem.Spec PySem.MeetsSeq PySem.SeqAt
theorem De:∀{l acc:List (Str×Value)},((acc++l).map (·.1)).Nodup->(forIn l acc (λx r=>if(r.lookup x.1).isNone=true then pure (qJ4 (r++[(x.1,x.2)])) else pure (qJ4 r)):Sem (List (Str×Value)))=pure (acc++l):=by
 intro l;induction l with
 |nil=>
  intro acc _;rw[E7];rfl
 |cons x l b=>
  intro acc a;have c:acc.lookup x.1=none:=by
   rw[qX6];intro y d;rw[C8,qZ0] at a;have:=a.2.2 y.1 (T8.mpr (qZ y d rfl)) x.1 (T8.mpr (qZ x T3 rfl));simp[qN6 this]
  rw[qL0,c,A3 (show(none:Option Value).isNone=true from rfl),qX7];show(forIn l (acc++[x]) _:Sem (List (Str×Value)))=_;rw[b (by rw[qY5];exact a),qY5];rfl
theorem J5{α β:Type}{x y:Sem α}{f:α->Sem β}{z:Sem β}(h:x=y)(k:(y>>=f)=z):(x>>=f)=z:=h▸k
theorem Da{fd:qZ6}{v:Value}{T:Addr}{o:Obj}{items:Array Value}{n:Nat}{s:S8}{ns:List Str}{a:Str}(k:fd.params.posonlyargs=[])(i:fd.params.kwonlyargs=[])(g:fd.params.vararg=none)(j:fd.params.kwarg=none)(e:fd.defaults=.ref T)(q:s.heap.get? T=some o)(r:o.data=.seq items n)
  (d:fd.params.args.map (·.arg)=a::ns) (b:(a::ns).Nodup) (c:items.toList.length=ns.length):wJ5 s fd ⟨[v],[]⟩ ((a,v)::ns.zip items.toList):=by
 have m:items.toList.length-(a::ns).length=0:=qX c (qX qW2 (Nat.sub_eq_zero_of_le (Nat.le_succ _)));have p:(a::ns).length-items.toList.length=1:=qX c (qX qW2 (Nat.add_sub_cancel_left ..));have t:=List.map_fst_zip (Nat.le_of_eq c.symm);have u:=De (l:=ns.zip items.toList) (acc:=[(a,v)]) (qX C8 (qX t b));have w:=rW (ns:=a::ns) (vs:=v::items.toList) b (cgA Nat.succ c);obtain⟨nm,C,⟨D,y,E,F,kd,G,H⟩,I,J,K,M,N,z,A,O,P,Q,R,bt⟩:=fd;dsimp only at k i g j e d;subst k i g j e;have B:List.filter (λn=>(qF6 n ((a::ns).zip [v])).isNone) (List.take ((a::ns).length-(List.drop (items.toList.length-(a::ns).length) items.toList).length) (a::ns))=[]:=by
  refine qX m (qX List.drop_zero (qX p ?_));simp
 refine wJ5.of_defaults rfl q r (by unfold zM2;rfl) ?_;dsimp only;generalize qU7 (λx=>x.arg) y=L at d⊢;subst d;refine(D9 ?_).trans ((D9 ?_).trans ?_)
 ·intro h;have h':=of_decide_eq_true (Bool.and_eq_true_iff.mp h).1
  change 1>(a::ns).length at h'
  replace h':=qW2▸h';lia
 ·exactλh=>Bool.noConfusion ((cgA (λl:List Str=>!l.isEmpty) B).symm.trans h)
 dsimp only[Option.getD_some];refine qX (show qU7 (λx:Arg=>x.arg) ([]:List Arg)++a::ns=a::ns from rfl) (qX (m) (qX (List.drop_zero) (qX (p) (qX (qW4) (qX (qI1) ?_)))));refine J5 u ?_;refine cgA (pure (f:=Sem)) ?_;show List.filterMap (λn=>(((a::ns).zip (v::items.toList)).lookup n).map (n,·)) (a::ns++[])=_;rw[E7];exact w
noncomputable def J6(K:Frag)(v:Value)(b:List Int):Bool:=Ox v λT=>pB (K.lookup T) λo=>Op o.data λa=>(a.toList.length==b.length)&&(a.toList.zip b).all λp=>Qh p.1 λj=>j==p.2
theorem zL1:∀{a:List Int},l.length=a.length->((l.zip a).all λp=>Qh p.1 λj=>j==p.2)=true->zK Is l (a.map AV.int):=by
 induction l with
 |nil=>intro a e _;cases a with
  |nil=>exact .nil
  |cons=>exact nomatch e
 |cons v l b=>intro a e h;cases a with
  |nil=>exact nomatch e
  |cons d a=>
   rw[qW4,qH7] at h;refine qK (qO h) λc f=>yX (Qm c) λi t g k=>?_;refine .cons ?_ (b (Nat.succ.inj e) f);exact qX (show v=_ from g) (qX (beq_iff_eq.mp k) (.int _ _))
theorem J7{K:Frag}{a:List Int}(h:J6 K v a=true):∃T o items n,v=.ref T∧K.lookup T=some o∧o.data=.seq items n∧zK Is items.toList (a.map AV.int):=by
 refine qY (Oy h) λT c d=>qY (sZ d) λo e f=>yX (Og f) λitems n g b=>?_;exact⟨T,o,items,n,c,e,g,zL1 (beq_iff_eq.mp (qO b).1) (qO b).2⟩
noncomputable def zN4(K:Frag)(f:Addr)(p:Nat)(ps:List Nat)(c:List Int)(b:Ss):Bool:=nO K f λfd a=>Vy ⟨fd.params,a,fd.scope,⟨0,0,0,0⟩⟩ (p::ps) []&&(fd.globals==qQ3)&&(fd.builtins==qL2)&&qE7 K fd.code fd.qualname&&J6 K fd.defaults c&&Nat.beq ps.length c.length&&Ql K fd.scope.names b a
theorem Di(hh:Z.hd=none)(O:Z.Ok)(ok:zN4 Z.K f p ps ds b=true)(w:O6 Z n (λ_=>none) qM b (ups (λ_=>none) (p::ps) (a::ds.map AV.int)) (lP Q) H):tC Z (n+1) f [a] H Q qM:=by
 refine wL3 (x6 ok) λoc od fd sl body hf hb K=>?_;refine Qg K λC h2 h3 h4 h5 h6 h7=>?_;have D:=Yl C;have h:=Nat.eq_of_beq_eq_true h6;have L:=beq_iff_eq.mp h2;have M:=beq_iff_eq.mp h3;refine Tb (J7 h5) λT o c k N hT P hit=>?_;intro vs iv A RR E s W F G Y kx;obtain⟨v,rfl,R⟩:∃v,vs=[v]∧Is v a:=by cases iv with|cons x r=>cases r;exact qZ _ rfl x
 have X:=O.X.keeps G.old;have g:((p::ps).map nm).Nodup:=hU (λk l=>(D.Ir k l).1) D.nd;have t:=hit.length;rw[S6] at t;have i:wJ5 s fd ⟨[v],[]⟩ (((p::ps).map nm).zip (v::c.toList)):=Da D.p1 D.p2 D.p3 D.p4 N (X _ _ hT) P D.p6 g (by rw[S6,t,h]);have S:zK Is (v::c.toList) (a::ds.map AV.int):=.cons R hit;have U:(p::ps).length=(a::ds.map AV.int).length:=by simp[h]
 refine wM3 (fd:=fd) (body:=body) (binds:=((p::ps).map nm).zip (v::c.toList)) ?_ (X _ _ hf) rfl (O.nolimit.keeps G.old) (codeRec_of X h4) hb i D.cell (λx V=>?_) (λC u j=>?_) D.co D.gen D.kind
 ·have:=W.depth;show A.depth<1000;lia
 ·have hm:=(qR9 (show(x.1,x.2)∈_ from V)).1;refine qY (T8.mp hm) λq I e=>?_;exact qX (C6 (e)) ((D.Ir q I).2)
 ·refine qK (G.more (tk:=s.toks+(((p::ps).map nm).zip (v::c.toList)).length) j) λr1 f1=>jL (G.free O (Nat.le_refl s.heap.objs.size)) λn0 k0 z0 aa=>?_;have y:dJ E s.heap s.heap.objs.size:=λo e=>by rw[n0] at e;exact uZ e
  generalize d:callEnv fd s.heap.objs.size f=eV at*;have z:eV.locals=s.heap.objs.size:=qX (C6 (d)) rfl;have lo:wN E C eV.locals (ups (λ_=>none) (p::ps) (a::ds.map AV.int)):=by
   refine qX (z) ?_;refine⟨k0,_,u,λk l=>?_⟩;have:=Ic S (mm:=λ_=>none) (m:=λ_=>none) (λp hp=>(D.Ir p hp).1) U (λ_ _=>.none) k l;cases I:(((p::ps).map nm).zip (v::c.toList)).reverse.lookup (nm k) with
   |some v=>rw[I] at this;exact this.w
   |none=>rw[I] at this;exact this.w
  have EO:zV eV (λ_=>none) fd.scope.names:=by
   refine⟨qX (C6 (d)) D.kind,qX (C6 (d)) rfl,qX (C6 (d)) L,qX (C6 (d)) M,λk a l _ F=>(nomatch F),λx V=>?_⟩;rcases V with q|q
   ·exact absurd rfl (D.cell _ (mem_of_lookup q))
   ·refine qY (D.free _ (mem_of_lookup q) rfl) λk l _=>?_;cases l
  have FE:cD Z E C eV:=⟨EO.kind,eV.locals,_,qX (C6 (d)) rfl,qX z u,lo.own,qX z z0⟩;refine Qd hh O EO b h7 w (A.deeper eV) _ _ E _ W.deep ((F.pT f1).deep FE) r1 lo (.deep F (qX z z0) (qX (C6 (d)) rfl)) (λfl s3 B H3 m3 r3 f3 ab J=>?_) (λ_ _ _ _ _ _ q=>q.elim);have f4:=f1.Vx (by rw[z];exact y) f3 λv0=>Wr v0 λ_ _ q=>q.elim;cases fl with
  |next=>exact Y _ s3 B H3 r3 f4 (qZ _ .none J)
  |ret v=>
   refine qY J λa R q=>?_;exact Y _ s3 B H3 r3 f4 (qZ _ R q)
  |brk=>exact J.elim
  |cont=>exact J.elim
noncomputable def wU8:List Nat:=[93,87,68,144,52,89,33]
noncomputable def wV6:List Int:=[32,1000000,50,10000,100000,50,1000000]
noncomputable def wF1:Ss:=.cons (.R7 (.R4 467 (.N9 47) 93) (.N9 93)) (.cons (.R7 (.R4 467 (.N9 47) 87) (.N9 87)) (.cons (.R7 (.R4 467 (.N9 47) 68) (.N9 68)) (.cons (.R7 (.R4 467 (.N9 47) 144) (.N9 144)) (.cons (.R7 (.R4 467 (.N9 47) 52) (.N9 52)) (.cons (.R7 (.R4 467 (.N9 47) 89) (.N9 89)) (.cons (.R7 (.R4 467 (.N9 47) 33) (.N9 33)) .nil))))))
noncomputable def Jz(K:Frag):Bool:=lF K 467 464&&zN4 K 464 47 wU8 wV6 wF1
theorem J8(T:Z.xR)(b:Jz Z.K=true)(q:∀x f H',qD H x->f 89=some (.int 50)->H'.obj 467 x=some f->qV MN H H'->Q (.ref x) H'):qB Z (n+2) 467 [] H Q qM:=by
 refine qK (qO b) λc d=>?_;refine Px T.ok c λx a=>Di T.hh T.ok d<|qN (.N9 rfl) (.N9 rfl)<|qN (.N9 rfl) (.N9 rfl)<|qN (.N9 rfl) (.N9 rfl)<|qN (.N9 rfl) (.N9 rfl)<|qN (.N9 rfl) (.N9 rfl)<|qN (.N9 rfl) (.N9 rfl)<|qN (.N9 rfl) (.N9 rfl)<|qP ⟨rfl,q x _ _ a rfl (qJ ..) (qV.refl.qL (.inr a))⟩
noncomputable def w1:S:=.R7 (.qG 58) (.dict 41 [65,50] (.cons (.zO 42 (.bin .mod (.N9 27) .Bu) (.one 27) (.lst 71) (.dX 71) .nil) (.cons (.R3 (.int 0)) .nil)))
noncomputable def w2:S:=.R7 (.qG 82) (.eH 43 41 (.call (.R5 159 (.ref 574)) (.cons (.qG 58) (.cons (.R3 (.int 4)) .nil))) (.R3 (.str 6)))
noncomputable def w3:S:=.R7 (.qG 49) (.bin .add (.R3 (.int 2)) (.call (.R5 159 (.ref 574)) (.cons (.qG 58) (.cons (.R3 (.int 3)) .nil))))
noncomputable def w4:S:=.R7 (.N9 167) (.zO 67 (.call (.R5 177 (.ref 588)) (.cons (.qG 58) (.cons (.qG 49) .nil))) (.one 0) .dZ (.qG 49) .nil)
noncomputable def w7:S:=.R7 (.qG 151) (.call (.R5 132 (.ref 409)) (.cons (.call (.R5 95 (.ref 467)) .nil) (.cons (.N9 210) .nil)))
noncomputable def w8:S:=.R7 (.N9 125) (.zO 19 (.call (.R5 187 (.ref 276)) (.cons (.qG 151) (.cons (.R3 (.str 5)) (.cons (.R4 409 (.qG 151) 141) (.cons (.R3 (.int 1)) .nil))))) (.one 0) .dZ (.qG 49) .nil)
noncomputable def w9:S:=.expr (.call (.R5 243 (.ref 283)) (.cons (.R3 .none) (.cons (.N9 125) .nil)))
noncomputable def w10:S:=.R7 (.N9 90) (.call (.R5 242 (.ref 488)) (.cons (.R3 (.int 90)) (.cons (.list 40 (.cons (.R3 (.str 1)) (.cons (.R3 (.str 2)) (.cons (.R3 (.str 3)) .nil)))) .nil)))
noncomputable def w12:S:=.R7 (.R4 409 (.qG 151) 83) (.N9 195)
noncomputable def w13:S:=.R7 (.qG 25) (.dict 49 [86,92,99,48,23,54,53] (.cons (.mulL 72 52 (.list 72 (.cons (.R3 (.str 81)) .nil)) (.qG 49)) (.cons (.mulL 73 53 (.list 73 (.cons (.R3 .none) .nil)) (.qG 49)) (.cons (.mulL 74 54 (.list 74 (.cons (.R3 .none) .nil)) (.qG 49)) (.cons (.mulL 75 59 (.list 75 (.cons (.R3 (.bool false)) .nil)) (.qG 49)) (.cons (.list 50 .nil) (.cons (.list 58 .nil) (.cons (.R3 (.int 0)) .nil))))))))
noncomputable def v5:X:=.tup (.cons (.list 65 .nil) (.cons (.list 47 .nil) .nil))
noncomputable def t5:T:=.F4 [(true,46),(true,54)]
noncomputable def wB1:S:=.R7 (.N9 7) (.call (.R5 179 (.ref 636)) (.cons (.qG 25) (.cons (.qG 82) .nil)))
noncomputable def nR:List Nat:=[49,151,25,82,46,54,58]
noncomputable def wH0(s:Stmt)(f:Expr->Expr->Expr->Expr->Bool):Bool:=eF s λa v _=>wC a λt=>eG t λb _ _=>yR b λx r=>wC r λy=>vT x λ_ _=>vT y λ_ _=>eG v λ_ _ _=>f x y t v
@[elab_as_elim] theorem J9{P:Stmt->Prop}(h:wH0 s f=true)(k:∀a g b i c tp vs d j p,f (.Name a g) (.Name b i) (.Tuple [.Name a g,.Name b i] c tp) (.Tuple vs d j)=true->P (.Assign [.Tuple [.Name a g,.Name b i] c tp] (.Tuple vs d j) p)):P s:=by
 refine nK h λl v p m=>?_;refine jZ m λt n=>?_;refine jP (iV n) λB c tp e o=>?_;subst e;refine yX (vB o) λx r e q=>?_;subst e;refine qY (jE q) λy e u=>?_;subst e;refine yX (lW u) λa g e w=>?_;subst e;refine yX (lW w) λb i e z=>?_;subst e;refine jP (iV z) λvs d j e A=>?_;subst e;exact k _ _ _ _ _ _ _ _ _ _ A
theorem Fx [Decidable c](d:c->a=x)(e:¬c->b=x):(if c then a else b)=x:=by
 by_cases h:c
 ·exact qX (A3 h) (d h)
 ·exact qX (D9 h) (e h)
theorem zI0{α β:Type}{f:α->Option β}{x y:α}(h:f x=none):((([x,y]:List α).filterMap f).length !=([x,y]:List α).length)=true:=by
 refine qX (qC2 h) ?_;cases e:f y with
 |none=>rw[qC2 e];rfl
 |some z=>rw[List.filterMap_cons_some e];rfl
theorem zI3{e g tp f pos:Pos}{vs:List Expr}{eV:Env}(i:eV.kindOf a=some .cell):exec (.Assign [.Tuple [.Name a e,.Name b g] c tp] (.Tuple vs d f) pos) eV=(qH2 pos>>=λ_=>eval (.Tuple vs d f) eV>>=λx=>qY4 (.Tuple [.Name a e,.Name b g] c tp) eV x>>=λ_=>pure .next):=by
 refine nW rfl ?_ rfl;refine Fx (λ_=>rfl) λ_=>Fx (λ_=>rfl) λ_=>(A3 ?_).trans rfl;refine(Bool.or_eq_true _ _).mpr (.inl (zI0 ?_));exact D9 λh=>by
  have k:=(Bool.and_eq_true_iff.mp h).1;rw[i] at k;exact Bool.noConfusion k
noncomputable def zN6(s:Stmt)(f:List Stmt->qA7->Bool):Bool:=if h:s.ctorIdx=17 then Stmt.Try.elim (motive_2:=λ_=>Bool) s h (λb a o c _=>wC a λe=>o.isEmpty&&c.isEmpty&&f b e) else false
theorem zL5(h:zN6 s f=true):∃b e p,s=.Try b [e] [] [] p∧f b e=true:=
 Ow h λd a=>Stmt.Try.elim (motive_2:=λs=>∀h:s.ctorIdx=17,Stmt.Try.elim (motive_2:=λ_=>Bool) s h (λb g o c _=>wC g λe=>o.isEmpty&&c.isEmpty&&f b e)=true->∃b e p,s=.Try b [e] [] [] p∧f b e=true) s d (λb g o c p _ a=>jZ (f:=λe=>o.isEmpty&&c.isEmpty&&f b e) a λe a=>vG a λi j k=>jD i (jD j (jN b e p rfl k))) d a
noncomputable def wG9(h:qA7)(f:Expr->Str->List Stmt->Bool):Bool:=match h with
 |.ExceptHandler t x b _=>pB t λt=>pB x λx=>f t x b
theorem wW5(h:wG9 e f=true):∃t x b p,e=.ExceptHandler (some t) (some x) b p∧f t x b=true:=by
 cases e with
 |ExceptHandler t x b p=>exact dU (f:=λt=>pB x λx=>f t x b) h λt h=>dU h λx h=>⟨t,x,b,p,rfl,h⟩
noncomputable def V3(K:Frag)(a:List (Str×NameKind))(s:Stmt):Bool:=zN6 s λb h=>wC b (λst=>eF st λd v _=>wC d λe=>jM a 51 .local e&&lK e v&&nA v λg c=>gT K a 191 (.ref 449) g&&gE K (.cons (.qG 151) .nil) a c)&&
 wG9 h λt x b=>gT K a 156 (.ref 119) t&&sE x (nm 70)&&kQ a (nm 70) .local&&Zq K a 70 b
def RZ(e:Value)(H:St):Prop:=e=.ref 0∧∃g,H.exc 0 0=some g
theorem wV8:∃e H,RZ e H:=⟨.ref 0,⟨λ_ _=>none,λ_ _=>none,λ_=>none,λ_ _=>none,λ_ _=>none,λ_=>none,λ_ _=>none,λ_ _=>none,λ_ _=>some λ_=>none,λ_=>none⟩,rfl,_,rfl⟩
theorem wG8:∀e H',RZ e H'->∃a C g,e=.ref a∧H'.exc C a=some g:=λe H' ⟨h,g,q⟩=>jN 0 0 g h q
def vR(H:St):Prop:=(∃l,H.tab 595=some l)∧∃l,H.tab 645=some l
theorem Fy(τ:TT)(n:Nat)(b:∀i,i<n->(τ.t i).st≠.qC):uP ((B4 n).map λi=>AV.str (τ.t i).st.bcode) n=(τ.yN n).map λ(i:Nat)=>AV.int (i+1):=by
 unfold uP TT.yN;refine qX (C6 (Za (p:=τ.U7) (g:=λ(i:Nat)=>AV.int ((i:Int)+1)))) ?_;refine Qj λi a=>?_;have a:=qX4.mp a;have e:((B4 n).map λi=>AV.str (τ.t i).st.bcode)[i]?=some (AV.str (τ.t i).st.bcode):=by
  exact qX (D4) (qX (qJ6 a) rfl)
 refine qX (e) ?_;unfold TT.U7;have b:=b i a;cases h:(τ.t i).st<;>first|rfl|exact absurd h b
@[elab_as_elim] theorem zG6{K:Frag}(s:Stmt){P:Stmt->Prop}(z:V3 K ks s=true)
  (k:∀n m y M L A x c b a,lK (.Name (nm 51) n) (.Call (.Name (nm 191) x) c [] m)=true->51<NN->ks.lookup (nm 51)=some .local->wK c=true->191<NN->ks.lookup (nm 191)=some .globalImplicit->gM K 191 (.ref 449)=true->gE K (.cons (.qG 151) .nil) ks c=true->
   156<NN->ks.lookup (nm 156)=some .globalImplicit->gM K 156 (.ref 119)=true->ks.lookup (nm 70)=some .local->Zq K ks 70 (b::a)=true->
   P (.Try [.Assign [.Name (nm 51) n] (.Call (.Name (nm 191) x) c [] m) y] [.ExceptHandler (some (.Name (nm 156) M)) (some (nm 70)) (b::a) L] [] [] A)):P s:=by
 refine jP (zL5 z) λb e p d B=>?_;subst d;clear z;refine xJ B λC D=>?_;clear B;refine jZ C λst E=>?_;refine nK E λN v m F=>?_;refine jZ F λZ G=>?_;clear C E F;refine vG G λH o I=>?_;clear G;refine zX (kG H) λn d O Q=>?_;subst d;refine gL (Rp I) λg c R d q f=>?_;subst d;clear H I;refine xJ f λh r=>xJ h λJ S=>?_;clear f h;refine zX (kG J) λA d T U=>?_;subst d;refine tW (wW5 D) λt x a y d i=>?_;subst d;clear J D;refine tM i λj u w l=>xJ j λV W=>Lr u ?_;clear i j;refine zX (kG V) λp7 d X Y=>?_;subst d;refine yX (vB l) λb0 a d _=>?_;subst d;exact k _ _ _ _ _ _ _ _ _ _ o O Q q T U S r X Y W (Jg w) l
theorem Nk{Rk:Value->St->Prop}(T:Z.xR)(X:U8 Z.K)(t:zV eV F ks)(y:eV.frame=some eV.locals){s:Stmt}{c tk:Addr}{Q:Fl->M->St->Prop}(h:∀e H',Rk e H'->∃a f,e=.ref a∧H'.exc 119 a=some f)(A:V3 Z.K ks s=true)(D:F 151=some c)(g:H.qG 151 c=some (some (.ref tk)))
  (w:qB Z n 449 [.ref tk] H (λa C=>Q .next (up m 51 a) C) Rk)
  (z:∀e H' d,Rk (.ref e) H'->Zq Z.K ks 70 d=true->qF (Z.held e) n eV.locals (up m 70 (.ref e)) (qQ8 d eV) H' (λB _ i=>∃v a,B=.ret v∧Is v a∧∀j,Q (.ret a) j i) qM):qF Z n eV.locals m (exec s eV) H (FQ Q) RZ:=by
 refine zG6 s A λP S U V W Y x u b d k E G l I J K o L N O p r=>wU5 (R:=Rk) T.ok t y wV8 k E G (by decide) p L N O (qO (qO (qO X.x).1).1).1 ?_ h λe H' q=>z e H' _ q r;exact Ra T.hh T.ok t l I J K o ((Wn.cons (.qG D g) .nil) _ ⟨rfl,rfl⟩) w
def Nl(P:xZ)(d:Nat->Addr)(e:Addr)(F:Fm)(a b c:Addr)(N:Nat)(m:M)(H:St):Prop:=∃τ eQ,Wl P d τ eQ N N H∧G8 P F a b c H∧P5 P d e m H∧∃l,H.tab 645=some l
noncomputable def V4(K:Frag)(a:List (Str×NameKind))(l:List Stmt):Bool:=fR K a [wB1] l λl=>yR l λs b=>V3 K a s&&Ql K a Wm b
theorem zE2(T:Z.xR)(X:U8 Z.K)(V:zV eV F ks)(fr:eV.frame=some eV.locals)(h0:∀j,P.ins j=0)(ae:P.wr=.none){N:Nat}(hN:N<40){l:List Stmt}(ok:V4 Z.K ks l=true)(L:Nl P pr pg F cTk cBk cSz N m H){K:Fl->M->St->Prop}
  (kn:∀m' H',Nl P pr pg F cTk cBk cSz (N+1) m' H'->K .next m' H') (kr:∀m' H',vR H'->K (.ret (.bool true)) m' H'):qF Z (n+10) eV.locals m (qQ8 l eV) H (FQ K) RZ:=by
 refine Jv L λτ eQ S C D h6=>?_;clear L;have cc:=S.len;refine zM5 T.hh T.ok V (Q:=λB m' H'=>B=.next∧∃a,m'=up m 7 a∧X3 P (τ.turn P) a H'∧qV MB H H') (λB m' H' ne q=>absurd q.1 ne) (λl' m' H1 af q=>?_) ok ?_
 rotate_left
 ·exact xF<|qE<|vU (.cons (.qG C.f5 C.c5) (.cons (.qG C.f2 S.I.C.cR) .nil))<|zO3 (n:=n+6) T S.bk S.W S.I.C.small (λa ha=>(S.I.asks a ha).1) (by lia) ⟨S.I.C.rules⟩ λa H1 h t=>qP (pS rfl (zU a rfl h t))
 refine qK q λ_ g=>?_;clear q;refine zX g λa W h t=>?_;clear g;subst W;refine xP af λs b ag=>?_;refine qK (qO ag) λYy ah=>?_;have I1:=S.I.keep (t.lE);have u:=C.keep t;have D1:=(D.keep t (by decide)).N9 (k:=7) (v:=a) (by decide);have E:=S.C.keep t (by decide) (by decide) (by decide);have t5:=I1.C.Pd;refine zH h6 λlt h6=>zH (t.tab _ _ h6) λcd G=>?_;have I:up m 7 a 7=some a:=A3 rfl;have fin:∀{Y:M}{p:St},O6 Z (n+10) F qM Wm Y K p->qF Z (n+10) eV.locals Y (qQ8 b eV) p (FQ K) RZ:=λw=>(Qd T.hh T.ok V Wm ah w).mono (λ_ _ _ q=>q) λ_ _ r=>r.elim;refine yK (qF.mono (Q:=FQ λB Y p=>(B=.next∧qF Z (n+10) eV.locals Y (qQ8 b eV) p (FQ K) RZ)∨(B=.ret (.bool true)∧vR p)) ?_ (λB Y p q=>?_) λ_ _ r=>r)
 rotate_left
 ·cases B with
  |next=>exact(q.resolve_right λv0=>qK v0 λz _=>nomatch z).2
  |brk=>rcases q with⟨z,_⟩|⟨z,_⟩<;>cases z
  |cont=>rcases q with⟨z,_⟩|⟨z,_⟩<;>cases z
  |ret v=>
   refine qY q λa' i q=>?_;rcases q with y2|y1
   ·refine qK y2 λz _=>?_;clear y2;cases z
   ·refine qK y1 λz q=>?_;clear y1;cases z;exact qZ _ i (kr _ _ q)
 cases d:τ.turn P with
 |go A=>
  rw[d] at h;refine qK h λB1 g=>?_;clear h;refine qY g λdu W bb=>?_;clear g;subst W;refine jL (Nv S.W d) λW' bc bd ce=>qY S.th λ_ _ aa=>?_;refine Nk (Rk:=qM) T X V fr (λ_ _ q=>q.elim) Yy u.f4 u.c4 ((Z4 (n:=n+1) T I1 S.W h0 (by lia) S.nx E (by lia) (λo e cf p ch c=>?_) (λo e=>Turn.noConfusion (d.symm.trans e)) (λo e=>Turn.noConfusion (d.symm.trans e))).mono λ_ _ q=>q) λ_ _ _ q=>q.elim;obtain rfl:=Turn.go.inj (d.symm.trans e);refine .inl ⟨rfl,fin ?_⟩;have cg:=c;have J:=c.tab _ _ G;refine zH J λO J=>?_;have ab:p.lst 19 (P.ad 26)=some ((B4 P.n).map λi=>.ref (P.ts i)):=by
   refine qY S.th λ_ g aa=>?_;subst g;exact c.zS (t.zS aa)
  have ac:=c.zS bb;exact Db (N:=N) T ch (B1.keep (c.lE)) W' bc bd (by lia) (by lia) ((S.pr.keep t (by decide)).keep c (by decide)) ab h0 ae (u.keep c) ((D1.keep c (by decide)).N9 (by decide)) rfl ((D9 (by decide)).trans I) ac λbe R m3 H3 S3 C3 D3 k3=>kn m3 H3 (Em (be) R S3 C3 D3 (k3.tab _ _ J))
 |over A=>
  rw[d] at h;refine qK h λB1 g=>?_;clear h;subst g;have bf:A.asks.length<1000:=by
   have e:A=τ.first P:=by
    by_cases e1:(τ.first P).zB P.n=[]
    ·by_cases e2:(τ.first P).yN P.n=[]
     ·obtain rfl:=Turn.over.inj ((gV e1 e2).symm.trans d);rfl
     ·cases hw:qY7 ((τ.first P).yV P.n) with
      |none=>exact Turn.noConfusion ((lR e1 e2 hw).symm.trans d)
      |some w=>exact Turn.noConfusion ((gU e1 e2 hw).symm.trans d)
    ·exact Turn.noConfusion ((cL e1).symm.trans d)
   have:=gK (P:=P) (τ:=τ);refine qX e ?_;lia
  refine Nk (Rk:=qM) T X V fr (λ_ _ q=>q.elim) Yy u.f4 u.c4 ((Z4 (n:=n+1) T I1 S.W h0 (by lia) S.nx E (by lia) (λo e=>Turn.noConfusion (d.symm.trans e)) (λo e p U ch c=>?_) (λo e=>Turn.noConfusion (d.symm.trans e))).mono λ_ _ q=>q) λ_ _ _ q=>q.elim;obtain rfl:=Turn.over.inj (d.symm.trans e);refine .inl ⟨rfl,fin ?_⟩;refine zH (c.tab _ _ G) λO J=>?_;exact Fq (n:=n+8) T U (B1.keep (c.lE)) bf (u.keep c) ((D1.keep c (by decide)).N9 (k:=51) (v:=.none) (by decide)).m1 rfl ((D9 (by decide)).trans I) λH3 k3=>kr _ _ ⟨(U.keep (k3.lE)).C.Pd,k3.tab _ _ J⟩
 |stuck A=>
  rw[d] at h;refine qK h λB1 g=>?_;clear h;subst g;refine jL (aH d) λ_ _ _ g=>?_;subst g;have cm:=vK S.W;have bg:=gK (P:=P) (τ:=τ);refine Nk (Rk:=J4 P (τ.first P) eQ H1) T X V fr (λe H' ⟨x,f,l,q1,q2,_⟩=>nS x f q1 q2) Yy u.f4 u.c4 ((zF6 (n:=n+1) T X I1 S.W h0 (by lia) S.nx E (by lia) d (λe H' ⟨x,f,l,q1,q2,_⟩=>jN x 119 f q1 q2) λe H' q=>q).mono λ_ _ q=>q.elim) λe p bh q ca=>?_;refine tZ q λx f lw q1 q2 q3 q4 U c=>?_;clear q;obtain rfl:=Value.ref.inj q1;have C2:=u.keep c;have B2:=B1.keep (c.lE);refine wV B2.bk λbl da cb Wb _=>zH (c.tab _ _ G) λO J=>?_;refine(Dd (N:=P.n) (ts:=(τ.first P).told.map λ(i:Nat)=>AV.int i) T.ok V ca (dP X.a2) C2.f6 C2.f5 C2.f1 (by have:=U.C.small;lia) C2.c6 C2.c5 U.C.cT cb Wb.st Wb.to B2.bs (λi hi=>yU (((τ.first P).t i).st.bcode) (qX (D4) (qX (qJ6 hi) rfl))) U.told B2.bt (D5.mpr λy hy=>by obtain⟨i,_,rfl⟩:=T8.mp hy;rfl) q2 q3 (q4.trans (cgA some (Fy _ _ λi hi=>(cm i hi).1).symm)) ((D9 (by decide)).trans I) (A3 rfl) (by decide)).mono (λB m3 H3 q=>?_) λ_ _ r=>r;refine zX q λv g iv W=>?_;clear q;subst g;refine Wr W λy vs z3=>?_;clear W;subst z3;exact xO v _ rfl iv (λdb=>.inr (oQ rfl U.C.Pd (yU O J)))
structure Fh(F:Fm)(A:Nat->Addr)(V:M)(H:St):Prop where
 f:∀k∈nR,F k=some (A k)
 c:∀k∈nR,H.qG k (A k)=some (V k)
theorem Fh.keep{M:mM}(h:Fh F A V H)(k:qV M H H'):Fh F A V H':=⟨h.f,λj a=>k.qG _ _ _ (h.c j a)⟩
theorem Fh.set(h:Fh F A V H)(k:Nat)(v:AV):Fh F A (up V k v) (H.qU k (A k) (some v)):=⟨h.f,λj a=>by
 by_cases e:j=k
 ·subst e;rw[qS];exact cgA some (A3 rfl).symm
 ·exact qX (Ma (h.c j a) (.inl e)) (cgA some (D9 e).symm)⟩
structure SA(wl ce ru pg:Addr)(size:Nat)(rll:List (Nat×AV))(ps:List Addr)(H:St):Prop where
 w:kK wl ce H
 r:H.sd 43 ru=some rll
 pg:H.lst 67 pg=some (ps.map AV.ref)
 pr:∀p∈ps,∃rs,H.lst 46 p=some rs∧rs.length≤100∧∀r∈rs,pV H.tup size r
section
variable{wl ce ru pg:Addr}{size:Nat}{rll:List (Nat×AV)}{ps:List Addr}{H H':St}
theorem SA.keep{M:mM}(h:SA wl ce ru pg size rll ps H)(k:qV M H H')(d:41∉M.ms∧43∉M.ms∧42∉M.ml∧67∉M.ml∧46∉M.ml):SA wl ce ru pg size rll ps H':=
 ⟨h.w.keep k d.1 d.2.2.1,k.sd _ d.2.1 _ _ h.r,k.lst _ d.2.2.2.1 _ _ h.pg,λp e=>zX (h.pr p e) λf a b c=>zU f (k.lst _ d.2.2.2.2 _ _ a) b (λr g=>(c r g).keep k)⟩
theorem SA.qG(h:SA wl ce ru pg size rll ps H):SA wl ce ru pg size rll ps (H.qU k c v):=⟨⟨h.w.ex⟩,h.r,h.pg,h.pr⟩
end
theorem cG{k:Nat}{x:X}(h:wE Z n F R x m (λv a=>T9 (F k) λc=>T9 (a.qG k c) λ_=>O6 Z n F R r m Q (a.qU k c (some v))) H):O6 Z n F R (.cons (.R7 (.qG k) x) r) m Q H:=h
theorem w_A(T:Z.xR)(C:Fh F A V H){a:Addr}{ns:List Int}(D:m 120=some (.ref a))(B:lX Z a ns)(z:vR H)
  (q:∀c e f h size b(rl:Nat->Int) ps H',SA c e f h size b ps H'->(∀k∈jS,zE b k=some (.int (rl k))∧0≤rl k∧rl k≤3)->0<size->size≤4->ps.length=size->Fh F A (up (up (up V 58 (.ref c)) 82 (.ref f)) 49 (.int (size:Nat))) H'->vR H'->Q .next (up m 167 (.ref h)) H'):O6 Z (n+2) F qM (ss [w1,w2,w3,w4]) m Q H:=by
 refine cG<|zF0 D B λc e E G i=>qZ _ (C.f _ (by decide)) (qZ _ ((C.keep i).c _ (by decide)) ?_);have r:=(C.keep i).set 58 (.ref c);have s:kK c e (E.qU 58 (A 58) (some (.ref c))):=⟨G.ex⟩;refine cG<|Y3 (n:=n+1) T (C.f _ (by decide)) ((r.c _ (by decide)).trans rfl) s λf I b rl J K L l=>qZ _ (C.f _ (by decide)) (qZ _ ((r.keep l).c _ (by decide)) ?_);have t:=(r.keep l).set 82 (.ref f);have u:kK c e (I.qU 82 (A 82) (some (.ref f))):=⟨L.ex⟩;refine cG<|X6<|rd .R3<|qE<|vU (.cons (.qG (C.f _ (by decide)) ((t.c _ (by decide)).trans rfl)) (.cons .R3 .nil))<|mC (n:=n+1) T u (by decide) λj M N j3 O g=>qZ 2 rfl (qZ j rfl (qZ _ rfl (qZ _ (C.f _ (by decide)) (qZ _ ((t.keep g).c _ (by decide)) ?_))));refine zH (Int.eq_ofNat_of_zero_le N) λd o=>?_;subst o;have P:(2:Int)+(d:Int)=((2+d:Nat):Int):=by exact rfl
 refine qX (P) ?_;have v:=(t.keep g).set 49 (.int ((2+d:Nat):Int));have w:kK c e (M.qU 49 (A 49) (some (.int ((2+d:Nat):Int)))):=⟨O.ex⟩;refine xF<|Go (size:=2+d) T (C.f _ (by decide)) (C.f _ (by decide)) ((v.c _ (by decide)).trans rfl) ((v.c _ (by decide)).trans rfl) (by exact Nat.le_of_lt (Nat.le_add_right (Nat.succ (Nat.succ 0)) d)) (by lia) w λh ps H4 R S U W p=>qP ?_;have x:vR H4:=by
  refine qK z λo y=>zH o λl1 X=>zH y λl2 Y=>zH (i.tab _ _ X) λx1 b1=>zH (i.tab _ _ Y) λx2 b2=>zH (l.tab _ _ b1) λy1 d1=>zH (l.tab _ _ b2) λy2 d2=>zH (g.tab _ _ d1) λo e1=>zH (g.tab _ _ d2) λy e2=>?_;exact⟨p.tab _ _ e1,p.tab _ _ e2⟩
 exact q c e f h (2+d) b rl ps H4 ⟨W,p.Ps (g.Ps J),R,U⟩ K (by exact Nat.le_of_lt (Nat.le_add_right (Nat.succ (Nat.succ 0)) d)) (by lia) S (v.keep p) x
noncomputable def wK4(K:Frag)(c:List (Str×NameKind))(s:Stmt):Bool:=wH0 s λa b d v=>jM c 46 .cell a&&jM c 54 .cell b&&zD8 K c t5 d&&yJ K v5 c v
theorem zG8{K:Frag}{a:List (Str×NameKind)}(h:Bo K a (.R7 t e) s=true)(x:Str)(r:List Stmt):FD.find x (s::r)=FD.find x r:=by
 refine nK h λb v c _=>?_;rfl
theorem zK4{K:Frag}{a:List (Str×NameKind)}(h:Bo K a (.expr e) s=true)(x:Str)(r:List Stmt):FD.find x (s::r)=FD.find x r:=by
 refine iM h λv b _=>?_;rfl
theorem wN3(T:Z.xR)(h:zV eV F ks)(C:Fh F A V H)(t:wK4 Z.K ks s=true):qF Z n eV.locals m (exec s eV) H (λu m' H'=>u=.next∧m'=m∧∃b c g,qV MN H g∧g.lst 65 b=some []∧g.lst 47 c=some []∧H'=(g.qU 46 (A 46) (some (.ref b))).qU 54 (A 54) (some (.ref c))) qM:=by
 refine J9 t λa N b O c P R d S p v=>tM v λw U y z=>vG (Qt.symm.trans w) λ_ B D=>?_;obtain rfl:=Jp B;refine qX (zI3 ((cgA (qF6 (nm 46)) h.names).trans (Jg D))) ?_;refine qF.standAt (R9.pC ((yH T.hh T.ok v5 z h (Q:=λa e=>∃l b c,a=.ref l∧qV MN H e∧e.lst 65 b=some []∧e.lst 47 c=some []∧e.tup l=some [.ref b,.ref c]) ?_).vq λx a e i q=>?_))
 ·refine bA<|qR<|wO λb E=>qR<|wO λc G=>⟨Nat.le_of_ble_eq_true rfl,λl I=>wF8 l b c rfl ?_ ?_ ?_ (zN ..)⟩
  ·have j:qV MN H (H.qQ 65 b []):=qV.refl.qQ (.inr E);have o:=j.qQ (C:=47) (a:=c) (f:=([]:List AV)) (.inr (j.fr _ G));exact o.zQ (o.fr _ I)
  ·exact(show((H.qQ 65 b []).qQ 47 c []).lst 65 b=some [] from qT (qW ..))
  ·exact(show((H.qQ 65 b []).qQ 47 c []).lst 47 c=some [] from qW ..)
 refine K9 q λl b c J k K L M=>?_;clear q;subst J;have r:=C.keep k;refine qF.bind ((wP6 T.hh T.ok h (Q:=λm' H'=>m'=m∧H'=(e.qU 46 (A 46) (some (.ref b))).qU 54 (A 54) (some (.ref c))) y i ⟨l,rfl,_,M,rfl,_,C.f _ (by decide),_,r.c _ (by decide),_,C.f _ (by decide),_,(r.set 46 (.ref b)).c _ (by decide),rfl,rfl⟩).qq λ_ m' H' q=>qF.pure (oQ rfl q.1 (Km b c e k K L q.2)))
theorem wU4(c:F a=some x)(d:F b=some y):Hq F [a,b]=some [(a,x),(b,y)]:=by
 unfold Hq;refine qX (qL8) (qX (qL8) (qX (List.mapM_nil) (qX (c) (qX (d) ?_))));rfl
theorem w_B(T:Z.xR)(j:Jz Z.K=true)(C:Fh F A V H){size:Nat}(I:size<50)(G:V 49=some (.int size)){ch:Addr}(E:m 210=some (.ref ch))
  (q:∀tk ck lm tl dl h lo b e th i rd g en f H0 H' m',e.length=size->Made e (λ_=>81) H'->vM size tk ck lm tl dl h lo ch (e.map (·.1)) .none H'->H'.lst 19 b=some (e.map λx=>.ref x.1)->
   H'.obj 488 th=some f->f 115=some (.ref i)->f 147=some (.ref rd)->f 136=some (.ref en)->f 36=some (.ref g)->f 127=some .none->H'.td 2 i=some []->H'.lst 36 rd=some []->H'.lst 37 g=some []->H'.lst 40 en=some [.str 1,.str 2,.str 3]->
   qV MN H H0->qV {mo:=[195,409],ml:=[17,18]} (H0.qU 151 (A 151) (some (.ref tk))) H'->m'=up (up m 125 (.ref b)) 90 (.ref th)->Q .next m' H'):O6 Z (n+4) F qM (ss [w7,w8,w9,w10]) m Q H:=by
 show O6 Z (n+4) F qM (.cons w7 (.cons w8 (.cons w9 (.cons w10 .nil)))) m Q H;refine cG<|qE<|qR<|qE<|vU .nil<|J8 (n:=n+2) T j λh f H1 _ J K k=>vU (.cons (.N9 E) .nil)<|Ds T ⟨f,K,J⟩ λtk ck lm tl dl lo z _ d l=>qZ _ (C.f _ (by decide)) (qZ _ (((C.keep k).keep l).c _ (by decide)) ?_);have B:=((C.keep k).keep l).set 151 (.ref tk);have o:vM 0 tk ck lm tl dl h lo ch [] .none (z.qU 151 (A 151) (some (.ref tk))):=⟨d.tk,d.ck,d.lm,d.li,d.tl,d.dl,d.lo⟩;refine xF<|Dt (n:=n+1) T I (C.f _ (by decide)) (C.f _ (by decide)) ((B.c _ (by decide)).trans rfl) ((B.c _ (by decide)).trans (cgA some ((D9 (by decide)).trans G))) o λb e H3 L M p hb c N=>?_;refine vV<|qE<|vU (.cons .R3 (.cons (.N9 rfl) .nil))<|Nj (n:=n+3) T c M λr s t=>?_;have u:=p.keep t (by decide);refine xF<|qE<|qR<|rd .R3<|qR<|(show wE Z (n+4) F qM (.list 40 (.cons (.R3 (.str 1)) (.cons (.R3 (.str 2)) (.cons (.R3 (.str 3)) .nil)))) _ _ r from ?_);refine⟨by decide,λen v=>vU .nil<|Gi (n:=n+2) T λth i rd g O P R S U W X t5 Y t7 t8 t9 D=>qP ?_⟩;have w:qV MN r (r.qQ 40 en [.str 1,.str 2,.str 3]):=qV.refl.qQ (.inr v);have a:=w.trans D;have y:=D.zS (qW ..);exact q tk ck lm tl dl h lo b e th i rd g en O z P _ L (s.keep a (by decide)) (u.keep a (by decide)) (a.zS (t.zS c)) S U W X t5 Y t7 t8 t9 y (k.trans l) (((N.lE).trans (t.lE)).trans (a.lE)) rfl
noncomputable def qI8:S->Bool
 |.R7 _ _=>true
 |.expr _=>true
 |_=>false
section
variable{Z:Ctx}{F:Fm}{R:Value->St->Prop}{H:St}{A:Nat->Addr}{V:M}{eV:Env}{ks:List (Str×NameKind)}{K:Frag}{f:List Stmt->Bool}
theorem Tl:∀{X:List S}{l:List Stmt},fR K ks X l f=true->f (l.drop X.length)=true
 |[],l,h=>h
 |s::r,l,h=>by
  refine xP h λa l b=>?_;exact Tl (X:=r) (l:=l) (qO b).2
theorem Do{X:List S}:∀{l:List Stmt},X.all qI8=true->fR K ks X l f=true->∀x,FD.find x l=FD.find x (l.drop X.length):=by
 induction X with
 |nil=>exactλ_ _ x=>rfl
 |cons s r c=>
  intro l d h x;refine xP h λa l g=>?_;refine xJ g λb i=>xJ (qH7▸d) λj k=>?_;have:=c k i x;cases s with
  |expr e=>exact(zK4 b x l).trans this
  |R7 t e=>exact(zG8 b x l).trans this
  |_=>exact Bool.noConfusion j
theorem zD9(e:Z.hd=none)(O:Z.Ok)(g:zV eV F ks){Q Q2:Fl->M->St->Prop}(h:∀b m' H',b≠.next->Q b m' H'->Q2 b m' H'):
  ∀{X:List S}{l:List Stmt}{m:M}{H:St},fR Z.K ks X l f=true->O6 Z n F qM (ss X) m Q H->(∀m' H',Q .next m' H'->qF Z n eV.locals m' (qQ8 (l.drop X.length) eV) H' (FQ Q2) R)->qF Z n eV.locals m (qQ8 l eV) H (FQ Q2) R:=by
 intro X;induction X with
 |nil=>
  intro l m H d w k;exact k m H w
 |cons s r i=>
  intro l m H d w k;refine yX (vB d) λa l j c=>?_;subst j;refine qK (qO c) λo p=>?_;exact Su e O g h o w λm' H' q=>i p q k
theorem vM.serve{tk ck lm tl dl b lo ch:Addr}{ts:List Addr}{c v:AV}(h:vM k tk ck lm tl dl b lo ch ts c H):∃f,H.obj 409 tk=some f∧vM k tk ck lm tl dl b lo ch ts v (H.qL 409 tk (up f 83 v)):=by
 obtain⟨f,d,e,i,j,l,m,n,o,p,z,a⟩:=h.tk;obtain⟨g,q,r⟩:=h.ck;refine qY h.lm λs t u=>qY h.li λw x y=>?_;exact⟨f,d,⟨_,qJ ..,U9 rfl e,U9 rfl i,U9 rfl j,U9 rfl l,U9 rfl m,U9 rfl n,U9 rfl o,U9 rfl p,A3 rfl,U9 rfl a⟩,
  (qZ g (zF q) r),(qZ s (zF t) u),(qZ w (zF x) y),h.tl,h.dl,h.lo⟩
theorem w_C{Q:Fl->M->St->Prop}(T:Z.xR)(C:Fh F A V H){size:Nat}(t:size≤100)(r:V 49=some (.int size)){tk ck lm tl dl i lo ch ag:Addr}{ts:List Addr}(a:V 151=some (.ref tk))(s:vM size tk ck lm tl dl i lo ch ts .none H)(p:m 195=some (.ref ag))
  (q:∀H0 bk bs bu ba bi bl bt l H',qV {mo:=[409]} H H0->vM size tk ck lm tl dl i lo ch ts (.ref ag) H0->H'.sd 49 bk=some l->zE l 86=some (.ref bs)->zE l 92=some (.ref bu)->zE l 99=some (.ref ba)->zE l 48=some (.ref bi)->zE l 23=some (.ref bl)->zE l 54=some (.ref bt)->zE l 53=some (.int 0)->
   H'.lst 52 bs=some (C9 size (.str 81))->H'.lst 53 bu=some (C9 size .none)->H'.lst 54 ba=some (C9 size .none)->H'.lst 59 bi=some (C9 size (.bool false))->H'.lst 50 bl=some []->H'.lst 58 bt=some []->qV MN H0 H'->Q .next m (H'.qU 25 (A 25) (some (.ref bk)))):O6 Z n F qM (ss [w12,w13]) m Q H:=by
 show O6 Z n F qM (.cons w12 (.cons w13 .nil)) m Q H;refine qY (s.serve (v:=.ref ag)) λf u b=>?_;have j:qV {mo:=[409]} H (H.qL 409 tk (up f 83 (.ref ag))):=qV.refl.zR;have k:=C.keep j;refine wY (.N9 p) (.qG (C.f _ (by decide)) ((C.c _ (by decide)).trans (cgA some a))) u<|cG<|zY2 (C.f _ (by decide)) ((k.c _ (by decide)).trans (cgA some r)) t λbk bs bu ba bi bl bt l H' w x y z B D E G I c d e g h o=>qZ _ (C.f _ (by decide)) (qZ _ ((k.keep o).c _ (by decide)) (qP ?_));exact q _ bk bs bu ba bi bl bt l H' j b w x y z B D E G I c d e g h o
end
noncomputable def Tp(K:Frag)(c:List (Str×NameKind))(s:Stmt):Bool:=oK s λd iter b a _=>a.isEmpty&&jM c 55 .local d&&yY iter&&Qk K c .dZ (yJ K (.R3 (.int 40)) c) iter&&V4 K c b
theorem zA8(T:Z.xR)(X:U8 Z.K)(d:zV eV F ks)(u:eV.frame=some eV.locals)(A:∀j,P.ins j=0)(g:P.wr=.none){s:Stmt}(E:Tp Z.K ks s=true)(L:Nl P pr pg F cTk cBk cSz 0 m H):
  qF Z (n+10) eV.locals m (exec s eV) H (FQ λw m' H'=>(w=.next∨w=.ret (.bool true))∧vR H') RZ:=by
 refine Lb E λtg iter b e p G=>?_;refine qK (qO G) λI J=>qK (qO I) λM O=>qK (qO M) λU V=>qK (qO U) λW Y=>?_;obtain rfl:=E6.mp W;refine yW Y λtp hk hl=>?_;refine zS0 (R:=RZ) (B:=λv m' f H'=>∃j:Nat,j<40∧Nl P pr pg F cTk cBk cSz j m' H'∧(∀c a,Nl P pr pg F cTk cBk cSz (j+1) c a->f .next c a)∧∀c a,vR a->f (.ret (.bool true)) c a) (λ_=>u) wG8 T.ok d V (λv x m' f H' ix h=>cN h λj i L k l=>?_) ?_
 ·refine(kW (sL d hk hl ix (Q:=λ_ c a=>qF Z (n+10) eV.locals c (qQ8 b eV) a (FQ f) RZ) (zE2 T X d u A g i J ?_ k l))).mono (λ_ _ _ q=>q) λ_ _ r=>r.elim;refine Jv L λy z S C D t=>?_;exact Em (y) z S C (D.N9 (by decide)) t
 ·refine nP (x:=.R3 (.int 40)) (ik:=.dZ) T.hh T.ok d O (λo w'=>yH T.hh T.ok (.R3 (.int 40)) o d w') ?_;exact X8 (N:=40) (λj m' H'=>Nl P pr pg F cTk cBk cSz j m' H') (by decide) (λj m' H' K i L k l=>rE j i L k (λc a t=>l _ c a ⟨.inr rfl,t⟩)) L λm' H' h=>Jv h λy z S C D t=>⟨.inl rfl,S.I.C.Pd,t⟩
noncomputable def V5(K:Frag)(a:List (Str×NameKind))(q:Str)(body:List Stmt):Bool:=fR K a [w1,w2,w3,w4] body λl=>yR l λe l=>wK4 K a e&&yR l λf l=>mK a 210 [58,46] q f&&fR K a [w7,w8,w9,w10] l λl=>yR l λb l=>mK a 195 [54,82] q b&&fR K a [w12,w13] l λl=>yR l λc l=>Tp K a c&&wC l λd=>Bo K a (.ret (.R3 (.bool true))) d
theorem vR.keep{M:mM}{H H':St}(h:vR H)(k:qV M H H'):vR H':=let ⟨⟨_,a⟩,_,b⟩:=h;⟨k.tab _ _ a,k.tab _ _ b⟩
theorem V6(h:Fl.ret a=Fl.ret b):a=b:=by cases h;rfl
theorem V7(b:mK ks c cks q s=true)(a:c<NN)(e:x<NN)(f:c≠x):FD.find (nm x) (s::l)=FD.find (nm x) l:=by
 refine Py (P:=λs=>FD.find (nm x) (s::l)=FD.find (nm x) l) b λd D=>?_;exact D9 λh=>f (yI a e (beq_iff_eq.mp h))
theorem zN2{R:Value->St->Prop}(T:Z.xR)(p:zV eV F ks)(C:Fh F A V H){c:Nat}{a b:Nat}(o:a∈nR)(j:b∈nR){q:Str}{s:Stmt}{l:List Stmt}(t:mK ks c [a,b] q s=true)(k:uR Z.K c=FD.find (nm c) (s::l))(w:eV.qual=q++".<locals>.")(u:eV.code=.ref 647)(i:vR H):
  qF Z n eV.locals m (exec s eV) H (λe m' H'=>e=.next∧∃f,m'=up m c (.ref f)∧qV MN H H'∧H'.fn c f=some [(a,A a),(b,A b)]) R:=by
 refine qY (Pj t) λd g D=>?_;subst g;have h:=k.trans (show(if(nm c==nm c)=true then some (⟨d.params,d.body,d.scope,d.pos⟩:FD) else _)=_ from A3 (beq_self_eq_true _));refine qK i λ_ g=>?_;clear i;refine zH g λl x=>?_;clear g;refine(j7 T.ok p (Q:=λe m' H'=>e=.next∧∃f,m'=up m c (.ref f)∧qV MN H H'∧H'.fn c f=some [(a,A a),(b,A b)]) D h w u T.c2 ⟨l,x,_,wU4 (C.f a o) (C.f b j),λz f y _=>pS rfl (zU f rfl ((qV.refl.vQ).lC y) (rT ..))⟩).mono (λe m' H' q=>?_) λ_ _ r=>r.elim;cases e with
 |next=>exact⟨rfl,q.2⟩
 |ret v=>exact q.elim λa q=>nomatch q.2.1
 |_=>exact nomatch q.1
theorem Np(d:Z.hd=none)(O:Z.Ok)(g:zV eV F ks){X:List S}{l:List Stmt}{f:List Stmt->Bool}{R:Value->St->Prop}{Q:M->St->Prop}{Q2:Fl->M->St->Prop}(e:X.all qI8=true)(b:fR Z.K ks X l f=true)(w:O6 Z n F qM (ss X) m (λc m' H'=>c=.next∧Q m' H') H)
  (k:∀a m' H',f a=true->(∀x,FD.find x l=FD.find x a)->Q m' H'->qF Z n eV.locals m' (qQ8 a eV) H' (FQ Q2) R):qF Z n eV.locals m (qQ8 l eV) H (FQ Q2) R:=
 zD9 d O g (λc m' H' h q=>absurd q.1 h) b w λm' H' q=>k _ m' H' (Tl b) (Do e b) q.2
inductive LA(F:Fm)(A:Nat->Addr)(m m':M)(H':St):Prop where
 |mk (wl ce ru pg:Addr) (size:Nat) (rll:List (Nat×AV)) (rl:Nat->Int) (ps:List Addr) (a:SA wl ce ru pg size rll ps H') (b:∀k∈jS,zE rll k=some (.int (rl k))∧0≤rl k∧rl k≤3) (c:0<size) (d:size≤4) (e:ps.length=size) (f:Fh F A (up (up (up (λ_=>none) 58 (.ref wl)) 82 (.ref ru)) 49 (.int (size:Nat))) H') (g:vR H') (h:m'=up m 167 (.ref pg))
inductive LB(A:Nat->Addr)(size:Nat)(ch:Addr)(H4:St)(m m':M)(H':St):Prop where
 |mk (tk ck lm tl dl li lo b:Addr) (xs:List T4) (th qd rd ln en:Addr) (f:M) (H0:St) (a1:xs.length=size) (a2:Made xs (λ_=>81) H') (a3:vM size tk ck lm tl dl li lo ch (xs.map (·.1)) .none H') (a4:H'.lst 19 b=some (xs.map λx=>.ref x.1))
   (a5:H'.obj 488 th=some f) (a6:f 115=some (.ref qd)) (a7:f 147=some (.ref rd)) (a8:f 136=some (.ref en)) (a9:f 36=some (.ref ln)) (b0:f 127=some .none) (b1:H'.td 2 qd=some []) (b2:H'.lst 36 rd=some []) (b3:H'.lst 37 ln=some []) (b4:H'.lst 40 en=some [.str 1,.str 2,.str 3])
   (b5:qV MN H4 H0) (b6:qV {mo:=[195,409],ml:=[17,18]} (H0.qU 151 (A 151) (some (.ref tk))) H') (b7:m'=up (up m 125 (.ref b)) 90 (.ref th))
inductive LC(F:Fm)(A:Nat->Addr)(m':M)(H':St):Prop where
 |mk (P:xZ) (pr:Nat->Addr) (pg:Addr) (a:∀j,P.ins j=0) (b:P.wr=.none) (c:Nl P pr pg F (A 151) (A 25) (A 49) 0 m' H')
theorem wW7(T:Z.xR)(X:U8 Z.K)(k:zV eV F ks)(s:eV.frame=some eV.locals)(b:(yR l λc l=>Tp Z.K ks c&&wC l λd=>Bo Z.K ks (.ret (.R3 (.bool true))) d)=true)(h:LC F A m H){K:Fl->M->St->Prop}(o:∀m' H',vR H'->K (.ret (.bool true)) m' H'):qF Z (n+20) eV.locals m (qQ8 l eV) H (FQ K) RZ:=by
 obtain⟨P,w,x,t,g,L⟩:=h;refine xP b λc l b=>xJ b λi b=>jZ b λd j=>yK ((zA8 (n:=n+10) T X k s t g i L).qq λf m' H' q=>?_);cases f with
 |next=>
  refine yK ((soS T.hh T.ok k (.ret (.R3 (.bool true))) j (Q:=λf u p=>f=.ret (.bool true)∧vR p) ⟨rfl,q.2⟩).mono (λf u p q=>?_) λ_ _ r=>r.elim);cases f with
  |ret v=>exact q.elim λa q=>qZ a q.1 (V6 q.2.1▸o _ _ q.2.2)
  |_=>exact nomatch q.1
 |ret v=>exact q.elim λa q=>(qZ a q.1 (q.2.1.elim (λe=>nomatch e) λe=>V6 e▸o _ _ q.2.2))
 |_=>exact q.1.elim (λe=>nomatch e) λe=>nomatch e
theorem wX9(T:Z.xR)(X:U8 Z.K)(S:zV eV F ks)(fr:eV.frame=some eV.locals){q:Str}{l:List Stmt}(B:uR Z.K 195=FD.find (nm 195) l)(hq:eV.qual=q++".<locals>.")(hc:eV.code=.ref 647)
  (I:(yR l λy l=>mK ks 195 [54,82] q y&&fR Z.K ks [w12,w13] l λl=>yR l λW l=>Tp Z.K ks W&&wC l λU=>Bo Z.K ks (.ret (.R3 (.bool true))) U)=true)
  {G R J E Y c5 ch:Addr} {size:Nat} {j:List (Nat×AV)} {rl:Nat->Int} {ps:List Addr} {o:St} {m0:M} (S4:SA G R J E size j ps o) (V:∀k∈jS,zE j k=some (.int (rl k))∧0≤rl k∧rl k≤3) (z:size≤4) (w:ps.length=size)
  (C4:Fh F A (up (up (up (up (up (λ_=>none) 58 (.ref G)) 82 (.ref J)) 49 (.int (size:Nat))) 46 (.ref Y)) 54 (.ref c5)) o) (t4:vR o) (e3:o.lst 65 Y=some []) (e4:o.lst 47 c5=some []) (f4:o.fn 210 ch=some [(58,A 58),(46,A 46)])
  (h:LB A size ch o (up (up m0 167 (.ref E)) 210 (.ref ch)) m H) {K:Fl->M->St->Prop} (kr:∀m' H',vR H'->K (.ret (.bool true)) m' H'):qF Z (n+20) eV.locals m (qQ8 l eV) H (FQ K) RZ:=by
 obtain⟨tk,ck,lm,tl,dl,li,lo,b,xs,th,qd,rd,ln,en,aa,H0,hx,M5,T5,ab,ac,ae,af,ah,bb,bc,bd,be,bf,bg,p,kB,rfl⟩:=h;have L:=((C4.keep p).set 151 (.ref tk)).keep kB;have r:=vR.keep (show vR (H0.qU 151 (A 151) (some (.ref tk))) from(t4.keep p:vR H0)) kB;refine yX (vB I) λy dc z1 C=>?_;subst z1;refine xJ C λbh D=>yK ((zN2 (a:=54) (b:=82) (c:=195) T S L (by decide) (by decide) bh B hq hc r).qq λfl m' H6 qq=>?_);refine qK qq λz1 z2=>?_;clear qq;subst z1;refine zX z2 λag z3 N f6=>?_;clear z2;subst z3;refine Np T.hh T.ok S (X:=[w12,w13]) (Q:=LC F A) rfl D (w_C T (L.keep N) (size:=size) (Nat.le_trans z (by decide)) rfl (tk:=tk) rfl (T5.keep N (by decide)) (ag:=ag) rfl λH7 bk bs bu ba bi bl bt ca H8 k7 T7 d1 d2 d3 d4 d5 d6 d7 d8 d9 cb cc cd cf cg O=>⟨rfl,?_⟩) λl' m9 H9 I _ h=>wW7 T X S fr I h kr;have i:qV {mo:=[409]} H H8:=((N.lE).trans k7).trans (O.lE);have s:=(((L.keep N).keep k7).keep O).set 25 (.ref bk);have P:SA G R J E size j ps (H8.qU 25 (A 25) (some (.ref bk))):=((((S4.keep p (by decide)).qG (k:=151) (c:=A 151) (v:=some (.ref tk))).keep kB (by decide)).keep i (by decide)).qG;have t:=T7.keep O (by decide);have M8:=M5.keep i (by decide);have t8:=(r.keep i:vR H8);have da:=i.zS (kB.zS (p.zS e3));have db:=i.zS (kB.zS (p.zS e4));have f5:=i.fn _ _ _ (kB.fn _ _ _ (p.fn _ _ _ f4));clear S4 C4 t4 e3 e4 f4 B I C D L r p;have u:=s.c;have hP:=@zB9 (H8.qU 25 (A 25) (some (.ref bk))) (Wh size xs rl [tk,ck,lm,tl,th,qd,rd,en,c5,J,ag,A 82,A 54,ch,0,bk,bs,bu,ba,bi,bt,G,R,Y,A 58,A 46,b]) size xs rl _ li dl lo 0 0 0 ln bl 0 ps aa j ca rfl hx z ⟨M8.each,M8.subs,M8.nd⟩ ⟨t.tk,t.ck,t.lm,t.li,t.tl,t.dl,t.lo⟩ (i.yB ac) ae af ah bb bc (i.P8 bd) (i.zS be) (i.zS bf) (i.zS bg) P.r V (O.fn _ _ _ (k7.fn _ _ _ f6)) (u _ (by decide)) (u _ (by decide)) t8.1 db da f5 (u _ (by decide)) (u _ (by decide)) P.w (i.zS ab) P.pr w d1 d2 d3 d4 d5 d6 d7 d8 d9 cb cc cd cf cg;refine⟨_,_,E,λ_=>rfl,rfl,_,_,hP,⟨s.f _ (by decide),s.f _ (by decide),s.f _ (by decide),s.f _ (by decide),s.f _ (by decide),s.f _ (by decide),u _ (by decide),u _ (by decide),u _ (by decide)⟩,⟨rfl,rfl,rfl,P.pg.trans (cgA some ?_)⟩,t8.2⟩;have e:=eY (l:=ps) (f:=λx=>x) (g:=AV.ref) (d:=0);rw[w,List.map_id'] at e;exact e
theorem wP2(T:Z.xR)(X:U8 Z.K)(E:Jz Z.K=true)(p:zV eV F ks)(fr:eV.frame=some eV.locals){q:Str}{body:List Stmt}(t:∀c,c=210∨c=195->uR Z.K c=FD.find (nm c) body)(hq:eV.qual=q++".<locals>.")(hc:eV.code=.ref 647)(o:V5 Z.K ks q body=true)
  {a:Addr} {ns:List Int} (hm:m 120=some (.ref a)) (hs:lX Z a ns) (C:Fh F A (λ_=>none) H) (ht:vR H) {K:Fl->M->St->Prop} (kr:∀m' H',vR H'->K (.ret (.bool true)) m' H'):qF Z (n+20) eV.locals m (qQ8 body eV) H (FQ K) RZ:=by
 refine Np T.hh T.ok p (X:=[w1,w2,w3,w4]) (Q:=LA F A m) rfl o (w_A (n:=n+18) T C hm hs ht λwl ce ru G h u rl ps H' a b c d e f g=>⟨rfl,wl,ce,ru,G,h,u,rl,ps,a,b,c,d,e,f,g,rfl⟩) λl5 m1 H1 o fA q1=>?_;obtain⟨wl,ce,ru,G,h,u,rl,ps,S1,I,ah,J,L,N,t1,rfl⟩:=q1;clear C ht;refine yX (vB o) λs5 l6 i o5=>?_;subst i;refine xJ o5 λO o6=>yK ((wN3 T p N O).mono (λfl m' H' qq=>?_) λ_ _ r=>r.elim);refine wH qq λi z B=>?_;clear qq;subst i;subst z;refine Ts B λj l w D e1 e2 z4=>?_;clear B;subst z4;have S3:=((S1.keep D (by decide)).qG (k:=46) (c:=A 46) (v:=some (.ref j))).qG (k:=54) (c:=A 54) (v:=some (.ref l));have R:=((N.keep D).set 46 (.ref j)).set 54 (.ref l);have S:vR ((w.qU 46 (A 46) (some (.ref j))).qU 54 (A 54) (some (.ref l))):=(t1.keep D:vR w);have e3:((w.qU 46 (A 46) (some (.ref j))).qU 54 (A 54) (some (.ref l))).lst 65 j=some []:=e1;have e4:((w.qU 46 (A 46) (some (.ref j))).qU 54 (A 54) (some (.ref l))).lst 47 l=some []:=e2;have fT:∀x,FD.find x (s5::l6)=FD.find x l6:=J9 (P:=λs=>∀x,FD.find x (s::l6)=FD.find x l6) O λ_ _ _ _ _ _ _ _ _ _ _ x=>rfl;clear S1 N t1 D e1 e2 O o o5;generalize (w.qU 46 (A 46) (some (.ref j))).qU 54 (A 54) (some (.ref l))=H3 at S3 R S e3 e4;refine yX (vB o6) λs6 l7 i U=>?_;subst i;refine xJ U λg6 o7=>yK ((zN2 (a:=58) (b:=46) (c:=210) T p R (by decide) (by decide) g6 ((t _ (.inl rfl)).trans ((fA _).trans (fT _))) hq hc S).qq λfl m' H4 qq=>?_);refine qK qq λi z=>?_;clear qq;subst i;refine zX z λch B y f4=>?_;clear z;subst B;have V:uR Z.K 195=FD.find (nm 195) l7:=(t _ (.inr rfl)).trans ((fA _).trans ((fT _).trans (V7 g6 (by decide) (by decide) (by decide))));have C4:=R.keep y;exact Np T.hh T.ok p (X:=[w7,w8,w9,w10]) (Q:=LB A h ch H4 (up (up m 167 (.ref G)) 210 (.ref ch))) rfl o7 (w_B (n:=n+16) T E C4 (by lia) rfl (ch:=ch) rfl λtk ck lm tl dl li lo b xs th qd rd ln en f H0 H' m' a1 a2 a3 a4 a5 a6 a7 a8 a9 W Y aa ab ac ae af ag=>⟨rfl,tk,ck,lm,tl,dl,li,lo,b,xs,th,qd,rd,ln,en,f,H0,a1,a2,a3,a4,a5,a6,a7,a8,a9,W,Y,aa,ab,ac,ae,af,ag⟩) λl' m5 H5 o fB q5=>
  wX9 T X p fr (V.trans (fB _)) hq hc o (S3.keep y (by decide)) I J L C4 (S.keep y) (y.zS e3) (y.zS e4) f4 q5 kr
noncomputable def V8(K:Frag):Bool:=nO K 648 λfd a=>dK K [(false,120)] nR fd&&(qO2 fd.code 647&&V5 K fd.scope.names fd.qualname a)
theorem Ez{f:M}{W:Fm->St->Prop}{T:St->Prop}(n:∀H c a v,T H->T (St.qU H c a v)):∀(d:List Nat){F:Fm}{A:Nat->Addr}{H:St}(b:List Nat),d.Nodup->(∀c∈d,c∉b)->T H->(∀c∈b,F c=some (A c)∧H.qG c (A c)=some (f c))->
  (∀F(A:Nat->Addr) H',T H'->(∀c,c∈b∨c∈d->F c=some (A c)∧St.qG H' c (A c)=some (f c))->W F H')->yP f d F H W:=by
 intro d;induction d with
 |nil=>exactλb _ _ t h k=>k _ _ _ t λc j=>h c (j.resolve_right qK5)
 |cons c r o=>
  intro F A H b l m t h k a p;have j:=m c T3;refine o (A:=λx=>if x=c then a else A x) (c::b) (O5.mp l).2 (λx g=>λq=>?_) (n _ _ _ _ t) (λx g=>?_) λF A H' t h=>k F A H' t λx g=>h x (g.elim (λq=>.inl (S9 _ q)) λq=>(E3.mp q).elim (λe=>.inl (qX e T3)) .inr)
  ·refine qQ0 (E3.mp q) (λi=>?_) λq=>?_
   ·subst i;exact(O5.mp l).1 g
   ·exact m x (S9 _ g) q
  ·by_cases e:x=c
   ·subst e;exact qX (A3 rfl) (qX (A3 rfl) (⟨rfl,qS ..⟩))
   ·refine qX (D9 e) (qX (D9 e) ?_);have:=h x ((E3.mp g).resolve_left e);exact⟨this.1,Ma this.2 (.inl e)⟩
theorem Ew{Z:Ctx}{H:St}(T:Z.xR)(X:U8 Z.K)(j:Jz Z.K=true)(N:V8 Z.K=true){a:Addr}{ns:List Int}(M:lX Z a ns){A:O3}{RR:qL4->S8->Prop}{κ:Kp}{s:S8}(I:uW Z A 21)(L:mA Z κ A s.heap)(O:Rep Z κ s H)(J:vR H)
  (K:∀f d H',Rep Z d f H'->vR H'->RR (.ok (.ret (.bool true))) f):qW6 (model O7 Z.w) A (.call (.ref 648) ⟨[.ref a],[]⟩) RR s:=by
 refine iN N λoc od fd sl body z B P S U i=>?_;refine Rj (n:=20) (W:=λF m C H'=>(∀E p,vR p->C (.ret (.bool true)) E p)∧m 120=some (.ref a)∧(∃A,Fh F A (λ_=>none) H')∧vR H') (Q:=λa H'=>a=.bool true∧vR H') (R:=RZ) (as:=[.ref a]) T.ok z B P S U rfl wG8 (λeV F m C H' V Y hq fr w=>w.2.2.1.elim λD w3=>wP2 (n:=0) T X j V fr (λc l=>?_) hq (Y.trans (Ri (qO i).1)) (qO i).2 w.2.1 M w3 w.2.2.2 w.1)
  (Ez (T:=vR) (λ_ _ _ _ t=>t) nR (A:=λ_=>0) [] (by decide) (λ_ _=>qK5) J (λ_ h=>absurd h qK5) λF D H' t h=>⟨λE p t=>⟨rfl,t⟩,rfl,⟨D,λk u=>(h k (.inr u)).1,λk u=>(h k (.inr u)).2⟩,t⟩) (.cons (.ref a) .nil) I L O (λv f d H' r _ q=>?_) (λe f d H' r _ q=>?_)
 ·have x:eU Z.K 648 (nm c)=FD.find (nm c) body:=by
   unfold eU;refine qX (z) ?_;dsimp only;exact qX (B) rfl
  rcases l with rfl|rfl<;>exact x
 ·refine zX q λb ib y t=>?_;clear q;subst y;exact ib.of_bool▸K f d H' r t
 ·refine qK q λy G=>?_;clear q;subst y;refine zH G λg hg=>?_;clear G;obtain⟨o,vs,c,k1,_⟩:=vP r hg;exact absurd (r.cells _ _ k1).2.2 (by decide)
noncomputable def zO5(K:Frag):Bool:=Ro K 119 116&&iS K&&bG K&&Yn K&&Pu K 80 77&&qH1 K (.ref 77)&&bL K 119 52&&bL K 119 89&&Vn K&&Vr K&&Jz K&&V8 K
theorem wQ8{K:Frag}(h:zO5 K=true):U8 K∧Jz K=true∧V8 K=true:=by
 exact Ln h λh d e a b c=>Qg h λf g i j k l m=>⟨⟨f,g,i,j,k,l,m,d,e,a⟩,b,c⟩
end
noncomputable def cF(K:Frag)(c P:Addr):Bool:=pB (K.lookup c) λo=>Ou o.data λa=>(o.cls==.type "code")&&(a[11]?==some (.ref P))&&(a.getD 11 .none==.ref P)&&Oj (a.getD 18 .none)&&Qh (a.getD 7 .none) (λ_=>true)&&Rg (a.getD 9 .none)&&(Qh (a.getD 10 .none) (λ_=>true)&&!(Nat.beq c P))
theorem Jw{K:Frag}{h:Heap}{c P:Addr}(X:K.In h)(e:cF K c P=true):zQ8 h c P:=by
 obtain⟨o,l,d⟩:=sZ e;obtain⟨m,n,g⟩:=Ol d;refine Qg g λd g p r s t a=>?_;obtain⟨f,u,i⟩:=Ov r;obtain⟨v,w,x,_⟩:=Qm s;obtain⟨b,y⟩:=Cq t;obtain⟨z,A,j,_⟩:=Qm (qO a).1;exact⟨o,m,f,u,v,w,b,z,A,X _ _ l,beq_iff_eq.mp d,n,beq_iff_eq.mp g,beq_iff_eq.mp p,i,x,y,j,λq=>by have k:=(qO a).2;rw[q,Nat.beq_refl] at k;exact Bool.noConfusion k⟩
noncomputable def Fj(K:Frag):Bool:=chk K&&zO5 K&&cF K 599 595&&cF K 647 645&&(nsIn K qQ3 (Str.ofString "law")==some (some (.ref 648)))
noncomputable def asO:List Addr:=[566,567,595,645]
noncomputable def vaO(w:qQ2):List (Option Obj):=[some {cls:=.type "tuple",data:=.seq yE},some (tX w.params),some (qR0 #[]),some (qR0 #[])]
noncomputable def Ku(ck:Frag->Bool)(d:List Stmt->List Str){α:Type}(e:Program->List Str->List Str->(S8->Bool)->Bool->S8->α)(b:α)(c:Code->Sem Fin)(f:Nat->Option Value->qL9->Bool)(ns:Heap->Addr->Str->Option Value)
  (st:(Code->Sem Fin)->Program->qQ2->SharedT->qL9->Option (SharedT×qL9)) (w:qQ2):Prop:=∀os:qF9,
 (Tf c PR w qS0 (f (qY8 w.params).objs.size (ns (qY8 w.params) qQ3 "__annotations__")) st 5000 (Ek w os) (topStub PR)).map
   (λa=>(wH5 (d PR.main.body) (qY8 w.params) a.abs.heap&&wY2 PR a.abs.heap&&gensDone a.abs&&laidKept (qY8 w.params) a.abs.heap,e vw cH (d PR.main.body) (XtO vw) true a.abs,ck (iO a.tree a.n),asO.map a.abs.heap.get?))=some (true,b,true,vaO w)
noncomputable def zM8(ck:Frag->Bool)(a:Code->Sem Fin)(c:Nat->Option Value->qL9->Bool)(ns:Heap->Addr->Str->Option Value)
  (st:(Code->Sem Fin)->Program->qQ2->SharedT->qL9->Option (SharedT×qL9)) (w:qQ2):Prop:=∀os:qF9,
 (Tf a PR w qS0 (c (qY8 w.params).objs.size (ns (qY8 w.params) qQ3 "__annotations__")) st 5000 (Ek w os) (topStub PR)).map (λb=>ck (iO b.tree b.n))=some true
noncomputable def P6(K:Frag):Bool:=(Xr K&&(P3.take 10).all λf=>f K)&&zO5 K&&cF K 599 595&&cF K 647 645&&(nsIn K qQ3 (Str.ofString "law")==some (some (.ref 648)))
noncomputable def P7(K:Frag):Bool:=(P3.drop 10).all λf=>f K
theorem Ex{α:Type}{l:List α}{n:Nat}{f:α->Bool}(p:(l.take n).all f=true)(q:(l.drop n).all f=true):l.all f=true:=by
 rw[<-List.take_append_drop n l,List.all_append];exact Bool.and_eq_true_iff.mpr ⟨p,q⟩
theorem Ey{K:Frag}(p:P6 K=true)(q:P7 K=true):Fj K=true:=by
 refine qK (qO p) λp a=>qK (qO p) λp b=>qK (qO p) λp c=>qK (qO p) λp d=>qK (qO p) λe f=>?_;exact Bool.and_eq_true_iff.mpr ⟨Bool.and_eq_true_iff.mpr ⟨Bool.and_eq_true_iff.mpr ⟨Bool.and_eq_true_iff.mpr ⟨Bool.and_eq_true_iff.mpr ⟨e,Ex f q⟩,d⟩,c⟩,b⟩,a⟩
theorem Jx{d:List Stmt->List Str}{α:Type}{e:Program->List Str->List Str->(S8->Bool)->Bool->S8->α}{a:α}{b:Code->Sem Fin}{c:Nat->Option Value->qL9->Bool}{ns:Heap->Addr->Str->Option Value}{st:(Code->Sem Fin)->Program->qQ2->SharedT->qL9->Option (SharedT×qL9)}{w:qQ2}(p:Ku P6 d e a b c ns st w)(q:zM8 P7 b c ns st w):Ku Fj d e a b c ns st w:=λos=>by
 obtain⟨g,r,l⟩:=B8.mp (p os);have f:=q os;rw[r] at f;rw[r];exact cgA some (qA0 (cgA (λx=>x.1) l) (qA0 (cgA (λx=>x.2.1) l) (qA0 (Ey (cgA (λx=>x.2.2.1) l) (B5 f)) (cgA (λx=>x.2.2.2) l))))
abbrev V9(ck:Frag->Bool):qQ2->Prop:=Ku ck Fast.tw5923862056798008813 (λa b c d e f=>Fast.tw4187177175401517315 a b c d e f) (openGood vw cH) (qS7 qS8) qT4 qT5 qS9
abbrev U3(ck:Frag->Bool):qQ2->Prop:=zM8 ck (qS7 qS8) qT4 qT5 qS9
theorem wM9(w:qQ2):V9 P6 (w.withFollow "special-get-raises" false):=λos=>by kernel_rfl
theorem wN6(w:qQ2):V9 P6 (w.withFollow "special-get-raises" true):=λos=>by kernel_rfl
theorem wK5(w:qQ2):U3 P7 (w.withFollow "special-get-raises" false):=λos=>by kernel_rfl
theorem wV9(w:qQ2):U3 P7 (w.withFollow "special-get-raises" true):=λos=>by kernel_rfl
theorem wN1:∀(w:qQ2),Ku Fj qP0 (λa b c d e f=>openSeen a b c d e f) (openGood vw cH) (qO3 qM9) qO4 Heap.nsMap stepT w:=by
 refine qX (Fast.te5923862056798008813) (qX (Fast.te4187177175401517315) (qX (Fast.te11892475500146522536) (qX (Fast.te14364793385576792824) (qX (Fast.te6613529449190102663) (qX (Fast.te8920871248978507458) (qX (Fast.te10156331382660048174) ?_))))));exact byRow2 "special-get-raises" (λw=>Jx (wM9 w) (wK5 w)) λw=>Jx (wN6 w) (wV9 w)
theorem leftB:LeftO PR vw cH (XtO vw) (λs=>(Seen Fj s.heap,asO.map s.heap.get?)) (λw=>(True,vaO w)) 5000:=Ep wK3 wF4 Th wN1
section
open PySem.Calls PySem.Spec
set_option maxHeartbeats 8000000 in
theorem jK:PySem.Challenge.rw_pp0059_01.wellSaid=true:=E5 (E5 (E5 (E5 (E5 (E5 (E5 (E5 (E5 (E5 (E5 (E5 (E5 (E5 (E5 (E5 (E5 (E5 (E5 (E5 (E5 (E5 (E5 (E5 (E5 (E5 (E5 (E5 (E5 (E5 (E5 (E5 (E5 (E5 (E5 (E5 (E5 (E5 (by kernel_rfl) (by kernel_rfl)) (by decide+kernel)) (by kernel_rfl)) (by decide+kernel)) (by decide+kernel)) (by kernel_rfl)) (by kernel_rfl)) (by kernel_rfl)) (by kernel_rfl)) (by kernel_rfl)) (by kernel_rfl)) (by kernel_rfl)) (by kernel_rfl)) (by kernel_rfl)) (by kernel_rfl)) (by kernel_rfl)) (by kernel_rfl)) (by kernel_rfl)) (by kernel_rfl)) (by kernel_rfl)) (by kernel_rfl)) (by kernel_rfl)) (by kernel_rfl)) (by kernel_rfl)) (by kernel_rfl)) (by decide+kernel)) (by kernel_rfl)) (by kernel_rfl)) (by kernel_rfl)) (by decide+kernel)) (by kernel_rfl)) (by kernel_rfl)) (by kernel_rfl)) (by kernel_rfl)) (by kernel_rfl)) (by kernel_rfl)) (by decide+kernel)) (by decide+kernel)
theorem Kk:(defOf vw RW.name).isSome=true:=by kernel_rfl
noncomputable def dB:DefRec:=((defOf vw RW.name).get Kk).1
noncomputable def kB:List (Str×Expr):=((defOf vw RW.name).get Kk).2
theorem hdefB:defOf vw RW.name=some (dB,kB):=(Option.some_get Kk).symm
theorem hpB:PR.theDef RW.name=some (dB.params,dB.body,dB.scope):=by kernel_rfl
theorem hkB:kwWritten? dB.params.kwonlyargs dB.params.kw_defaults=some kB:=by kernel_rfl
theorem hnB:dB.name=Str.ofString "law":=by kernel_rfl
def YPB(w:qQ2)(h:Heap):Prop:=Seen Fj h∧h.get? 566=some {cls:=.type "tuple",data:=.seq yE}∧h.get? 567=some (tX w.params)∧h.get? 595=some (qR0 #[])∧h.get? 645=some (qR0 #[])
theorem hYB(w:qQ2)(s:S8)(e:(Seen Fj s.heap,asO.map s.heap.get?)=(True,vaO w)):YPB w s.heap:=by
 have b:Seen Fj s.heap=True:=cgA Prod.fst e;have a:asO.map s.heap.get?=vaO w:=cgA Prod.snd e;have a:[s.heap.get? 566,s.heap.get? 567,s.heap.get? 595,s.heap.get? 645]=[some {cls:=.type "tuple",data:=.seq yE},some (tX w.params),some (qR0 #[]),some (qR0 #[])]:=a;simp only[qJ1,and_true] at a;exact⟨b▸trivial,a.1,a.2.1,a.2.2.1,a.2.2.2⟩
theorem hYkB(w:qQ2)(h h':Heap)(y:YPB w h)(k:∀b o,h.get? b=some o->h'.get? b=some o):YPB w h':=by
 refine En y λd f g i j=>?_;clear y;refine zX d λK X n c=>?_;clear d;exact⟨⟨K,λa o e=>k _ _ (X a o e),n,c⟩,k _ _ f,k _ _ g,k _ _ i,k _ _ j⟩
noncomputable abbrev Fv:List (Addr×Addr):=[(599,595),(647,645)]
theorem U4{vs:List Value}{ns:List Int}(h:zQ7 vs ns):zK Is vs (ns.map AV.int):=by
 induction h with
 |nil=>exact .nil
 |cons n t _ a=>exact .cons (.int n t) a
noncomputable def cZ(w:qQ2)(K:Frag)(s:S8)(b a:Str->Option Value):Ctx:=⟨w,K,chk,ghostOf s.heap Fv,s.os,none,b,a⟩
noncomputable def kT:Kp:=λa=>if a=595∨a=645 then some (.tab []) else none
noncomputable def sT:St:=⟨λ_ _=>none,λ_ _=>none,λ_=>none,λ_ _=>none,λ_ _=>none,λ_=>none,λ_ _=>none,λ_ _=>none,λ_ _=>none,λa=>if a=595∨a=645 then some [] else none⟩
theorem wG1{w:qQ2}{K:Frag}{s:S8}{f e:Str->Option Value}{p:Program}{loose:List Str}{c:ExcName->Option Value}(G:Top p loose c f e s.heap)(X:K.In s.heap)(j:qD9 K=true)(a:chk K=true)(b:TabsAt Fv s.heap)(h:s.heap.get? 566=some {cls:=.type "tuple",data:=.seq yE})(i:s.heap.get? 567=some (tX w.params)):(cZ w K s f e).xR:=by
 have d:=ghost_top b G;have g:=ghost_code b;exact⟨rfl,⟨ghost_K b X j,a,(qO a).1,ghost_get b h (λq=>by cases q),ghost_get b i (λq=>by cases q),d.g,d.b,d.builtins,d.nolimit,d.bmain⟩,rfl,g.1,g.2.1⟩
theorem wL8{w:qQ2}{K:Frag}{s:S8}{mg mb:Str->Option Value}(hg:s.gens=#[]) (y3:s.heap.get? 595=some (qR0 #[])) (y4:s.heap.get? 645=some (qR0 #[])):Rep (cZ w K s mg mb) kT s sT:=by
 have no:∀a,¬(a=595∨a=645)->kT a=none:=λa q=>D9 q;refine⟨λb o e=>of_hideAll _ e,λa c e=>?_,⟨λ_ _ _ e=>uZ e,λ_ _ _ e=>uZ e,λ_ _ e=>uZ e,λ_ _ _ e=>uZ e,λ_ _ _ e=>uZ e,λ_ _ e=>uZ e,λ_ _ _ e=>uZ e,λ_ _ _ e=>uZ e,λ_ _ _ e=>uZ e,λa c e=>?_⟩,hg,rfl⟩
 ·by_cases q:a=595∨a=645
  ·obtain rfl:=B5 ((A3 q).symm.trans e);exact⟨⟨q.elim (λh=>h▸y3) λh=>h▸y4,λp hp=>(nomatch hp)⟩,hideAll_none _ (by rcases q with rfl|rfl<;>simp),q.elim (λh=>h▸by decide) λh=>h▸by decide⟩
  ·exact uZ ((D9 q).symm.trans e)
 ·by_cases q:a=595∨a=645
  ·obtain rfl:=B5 ((A3 q).symm.trans e);exact A3 q
  ·exact uZ ((D9 q).symm.trans e)
@[elab_as_elim] theorem wG4{w:qQ2}{cl:Str->Option Addr}{h:Heap}{c:List WData}{d:List Value}{as:List Addr}{G:List WData->List Value->Prop}(f:RW.claim.pre c=true)(e:WData.layableAll c=true)(m:ReadsAllW RW.records cl h d c as)(i:WellAll w.params h d c)(j:∀a,a∈as->(a==qH3)=false)
  (k:∀(ns:List Int)(l:Addr)(b:List Value),h.IsList l b.toArray->zQ7 b ns->¬(63:Int)<ns.length->G [ofPy (.list (ns.map .int))] [.ref l]):G c d:=by
 wrow_args f e m i j
 rename_i ns q r s t u v x l b y n z A B o C g p
 exact k ns l b n o g
theorem walkB:WalkO vw cH (XL vw []) YPB RW.toRowW dB kB (λf vs=>PySem.call f vs):=by
 intro w j b mg mb G Y a o pm cd ab dV kV ho hd ac hD n hg W Z as p s E F H;refine wG4 p s E F H λns l k hL hI aa=>?_;refine En Y λi C D y3 y4=>?_;clear Y;refine zX i λK X nT u=>?_;clear i;refine Qp u λI x J L y=>?_;refine wH (wQ8 x) λXT M N=>?_;have z:a=648:=by
  have e:=mg_of X G.T.g (beq_iff_eq.mp y);rw[hnB,e] at n;cases n;rfl
 subst z;have O:TabsAt Fv b.heap:=λq Q=>by
  rcases E3.mp Q with rfl|Q
  ·exact⟨Jw X J,y3⟩
  ·obtain rfl:=B7.mp Q;exact⟨Jw X L,y4⟩
 have T:=wG1 G.T X nT I O C D;have hs:lX (cZ w K b mg mb) l ns:=⟨k,ghost_list O hL,U4 hI,by have:=hI.length;omega⟩;have R:=Ew (A:=callerA) T XT M N hs (RR:=λr B=>GoodW RW.claim (classAt j.heap) (ExcName.means j.heap) [ofPy (qM5.list (qU7 qM5.int ns))] {b with heap:=ghostOf b.heap Fv} r B∧GrownAll Fv B.heap) ⟨by decide,by decide,rfl⟩ ⟨[],rfl,λ_ h=>(nomatch h)⟩ (wL8 hg y3 y4) ⟨⟨[],rfl⟩,[],rfl⟩ λB ae H' r t=>?_
 ·refine qV1 (codeAny_mono (kn_post O (λ_ _=>rfl) R) λr B g=>?_);refine qK g λm g2=>?_;clear g;rcases m with D|C
  ·refine jP D λv d S i U=>?_;clear D;subst i;exact⟨.inl ⟨v,d,S,rfl,U⟩,g2⟩
  ·refine jP C λe ob V i U=>?_;clear C;subst i;exact⟨.inr ⟨e,ob,V,rfl,U⟩,g2⟩
 ·have c:∀P l,H'.tab P=some l->GrownAt P B.heap:=λP l e=>⟨_,(r.cells _ _ (r.view.tab P l e)).1.1⟩;refine qK t λi z2=>?_;clear t;refine zH i λl1 t1=>?_;clear i;refine zH z2 λl2 t2=>?_;clear z2;exact⟨⟨.inl ⟨.bool true,.bool true,[],rfl,λ_=>rfl,.bool true,by wrow_post,λ_=>⟨qX5,λ_ h=>(nomatch h)⟩⟩,r.old,r.os,r.gens⟩,c _ _ t1,c _ _ t2,trivial⟩
end
end Mine
set_option maxRecDepth 100000 in
set_option maxHeartbeats 8000000 in
theorem PySem.Challenge.cw_pp0059_01_holds : PySem.Challenge.rw_pp0059_01.Holds := by
 refine holds_law Mine.jK λjK=>holds_open (q:=Mine.vw) (loose:=Mine.cH) (Xt:=Mine.XtO Mine.vw) (XP:=XL Mine.vw []) (Yf:=λs=>(Mine.Seen Mine.Fj s.heap,Mine.asO.map s.heap.get?)) (Ya:=λw=>(True,Mine.vaO w)) (YP:=Mine.YPB) (N:=5000) Mine.leftB Mine.hYB Mine.hYkB (λs e=>xl_of s (Bool.and_eq_true_iff.mp e).1) XL.keeps Mine.hdefB Mine.hpB Mine.hkB (λs e=>recFacts_of (Bool.and_eq_true_iff.mp e).2) (by rfl) (by first|assumption|decide+kernel) (by decide+kernel) ⟨rfl,rfl,rfl,rfl,rfl,by decide+kernel⟩ ?hw Mine.walkB
 w_witness2
