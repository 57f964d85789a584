import PyProof.Rows.All
import Wide.All
import OpenK.AllK
import Wide.FinOn
import PySem.Challenge.RW_nn0405_01
open PySem PySem.W PyProof.Rows
set_option Elab.async false
set_option maxErrors 100000
set_option maxRecDepth 100000
set_option tactic.hygienic false
set_option linter.all false
set_option genSizeOf false
set_option genCtorIdx false
set_option genInjectivity false
set_option bootstrap.genMatcherCode false
namespace Mine
namespace hd
open _root_ renaming trivial->t
def tw2735741816244006784:=t
def tw12038256508788140161:=t
def tw10409065472786389249:=t
def tw3827565522384055841:=t
def tw13409513249864510019:=t
def tw8613531800708602920:=t
def tw10456413670096429481:=t
def tw3350844169311001129:=t
def tw15801637453660337897:=t
def tw9670673519109624972:=t
def tw16546736560662234797:=t
def tw16240987189780228909:=t
def tw8650829950939358254:=t
def tw17311223219408574766:=t
def tw1339208944850295502:=t
def tw10112999265790385998:=t
def tw11256090449914621168:=t
def tw2360641072437845360:=t
def tw9518435502879478352:=t
def tw78025292344231536:=t
def tw11389452901091978224:=t
def tw4691279627582602737:=t
def tw1664623461322820018:=t
def tw3490610803038915059:=t
def tw16622790232430140758:=t
def tw5147079676372830966:=t
def tw16244189857310113590:=t
def tw5531775953285160343:=t
def tw26425463804135960:=t
def tw15703826688255432312:=t
def tw10727248033764811480:=t
def tw5857384340933288121:=t
def tw464777395874653626:=t
def tw7568185435610096027:=t
def tw15651613401221246523:=t
def tw6473349456372846780:=t
def tw15298718440444336668:=t
def tw15955140184888088701:=t
def tw221497870779424605:=t
def tw9571657101598308349:=t
def tw3835178325580970078:=t
def tw18282886421538689439:=t
def tw15420195339020272362:=t
def tw11175848015463064028:=t
def tw15687388767607454252:=t
def tw5010264101278932077:=t
def tw14137390275340422267:=t
def tw17470177872615007328:=t
def tw10264135568141901301:=t
def tw15615537253650120727:=t
def tw18219297243305740317:=t
def tw8269573656231971908:=t
def tw13342606739435360313:=t
def tw5362516397382645915:=t
def tw17843490464661113860:=t
def tw2001351230973187099:=t
def tw11623594800819314181:=t
def tw3704167492566942397:=t
def tw6965799899956892507:=t
def tw4091639524402994376:=t
def tw1129884963351977449:=t
def tw17087091549796120035:=t
def tw17234923516513369237:=t
def tw2448417245163862455:=t
def tw561391293025646643:=t
def tw13289513938125300765:=t
def tw10216474801634566288:=t
def tw960944832710211464:=t
def tw15422856539912107476:=t
def tw4021928978595405253:=t
def tw8516288146210602744:=t
def tw2922222751358710265:=t
def tw15675198926951892251:=t
def tw8789358453043137523:=t
def tw242841246431481386:=t
def tw7317836474542784337:=t
def tw3694398316872202419:=t
def tw697623264460660564:=t
def tw15946388913382835224:=t
def tw14176624398918483544:=t
def tw14560493823538711346:=t
def tw9908193460736022307:=t
def tw2068664650715991707:=t
def tw7540741092611519060:=t
def tw6046454685291232161:=t
def tw11128854368766332075:=t
def tw758273949599710562:=t
def tw18268791191939849864:=t
def tw5513025101015932971:=t
def tw12936449754285732098:=t
def tw14353793391729792155:=t
def tw17471934795394947791:=t
def tw7355570028127101125:=t
def tw402640490398009360:=t
def tw1033889070964956483:=t
def tw11011131195910976488:=t
def tw6957150274394394060:=t
def tw243823211424636713:=t
def tw4363365295628954845:=t
def tw15616948245753086127:=t
def tw1535757262459896012:=t
def tw8047900516022102942:=t
def tw9496365245306024149:=t
def tw14612060388864693735:=t
def tw2781682124601125471:=t
def tw190519026028168232:=t
def tw11709330566771433103:=t
def tw10847404155465417027:=t
def tw6079173187612997037:=t
def tw17429513623812275283:=t
def tw1088296927520436173:=t
def tw17076082267592564974:=t
def tw15207398651663016943:=t
def tw16970440968685349367:=t
def tw5167245352685981253:=t
def tw12113243949977362033:=t
def tw12901994302517312135:=t
def tw13322179722446271537:=t
def tw7746578258024575070:=t
def tw17583924267553061668:=t
def tw1241404454085649124:=t
def tw2999033326186475339:=t
def tw2295870552580634182:=t
def tw18300207936620678264:=t
def tw17213754286329925777:=t
def tw3915529967508079626:=t
def tw14892549342360969540:=t
def tw18166333605607142505:=t
def tw3443669649825651883:=t
def tw5238241317806426387:=t
def tw4292457097857839397:=t
def tw10111801491309104144:=t
def tw7512474625130614241:=t
def tw7270182246851987180:=t
def tw10531373872144210542:=t
def tw5138769234217329475:=t
def tw8458067239894703972:=t
def tw8587404781116728655:=t
def tw2845679848157327705:=t
def tw17062030032774818151:=t
def tw7372000682148998216:=t
def tw3816877163431070358:=t
def tw11251137523995926341:=t
def tw257007361410690125:=t
def tw5987830557187376847:=t
def tw10678649693572172417:=t
def tw7382370116671421104:=t
def tw16357263729072622229:=t
def tw17325209927041812611:=t
def tw7379015992945566340:=t
def tw9459050058782445324:=t
def tw15043168886218598503:=t
def tw5635641802508607975:=t
def tw15759970867653108152:=t
def tw212345690472687942:=t
def tw10465514089279642386:=t
def tw4068527845204499245:=t
def tw10583446816852156582:=t
def tw11631947586910100387:=t
def tw6761669909254768831:=t
def tw5318216170032084099:=t
def tw16006246977917349235:=t
def tw1208734638264122097:=t
def tw1331086792558400476:=t
def tw14955159897011116063:=t
def tw17925215291927510665:=t
def tw13132618709999183898:=t
def tw9271970288684553227:=t
def tw16487816990975572028:=t
def tw1043307727769730188:=t
def tw17628472586750557451:=t
def tw7854228177987924090:=t
def tw9298403506768410418:=t
def tw12861998865439983172:=t
def tw3530705653197291679:=t
def tw11801993109049149486:=t
def tw526207354791536317:=t
def tw8493152586797012548:=t
def tw5416991563250132298:=t
def tw16299908979028503884:=t
def tw15199589371867527261:=t
def tw6528754448969337418:=t
def tw15642763164714097627:=t
def tw14553816603554493358:=t
def tw7534799579077118603:=t
def tw6759412095888398321:=t
def tw663384727985864361:=t
def tw15643275761693703936:=t
def tw17377529257436501650:=t
def tw11968265576560266318:=t
def tw11893437276241958245:=t
def tw11778180911958503814:=t
def tw4856431653887292112:=t
def tw15083628210047938546:=t
def tw7541792107247259296:=t
def tw6407587892757256292:=t
def tw461538923250603899:=t
def tw881544763273948857:=t
def tw8965841893048198262:=t
def tw14745743045033390146:=t
def tw10752148897807903841:=t
def tw12588582704262371052:=t
def tw2040990291671593033:=t
def tw16713699803418581334:=t
def tw17054507655720011243:=t
def tw4654797750381630734:=t
def tw2808349399557158395:=t
def tw12614811148066621264:=t
def tw2274498078352570744:=t
def tw1580110805410547442:=t
def tw6123773746684550334:=t
def tw825126770350376351:=t
def tw1409312971732116557:=t
def tw13483081372092288885:=t
def tw10458740792067480800:=t
def tw8977307856219701671:=t
def tw10246146449241189800:=t
def tw11513968764499736323:=t
def tw12647368939536790636:=t
def tw2000490053193787569:=t
def tw12239354291974867115:=t
def tw16064382804478563927:=t
def tw8934143017859847078:=t
def tw5054737718236178183:=t
def tw2386827423013361158:=t
def tw3442329435671937591:=t
def tw10788059911547816233:=t
def tw12952509933414984302:=t
def tw6755925336976613232:=t
def tw8228950375871286339:=t
def tw7082855905992002993:=t
def tw4990156530697904881:=t
def tw17252143746492648416:=t
def tw10403243965636340961:=t
def tw6906073325868019850:=t
def tw3828038474966422129:=t
def tw9555612238305686254:=t
def tw9657781627882305391:=t
def tw9077708301081682751:=t
def tw728884934406724761:=t
def tw5130813555471234732:=t
def tw1506431575118746342:=t
def tw10543509907540572799:=t
def tw16091413853298234908:=t
def tw6898005170327248138:=t
def tw10258999931320997221:=t
def tw1011335219593555734:=t
def tw17893044597097874663:=t
def tw8312999807965096350:=t
def tw3789350110615891812:=t
def tw3434918251397683217:=t
def tw11652457597714270106:=t
def tw5190246844813560578:=t
def tw185848376630758926:=t
def tw8959176491354863721:=t
def tw14705683404202351889:=t
def tw6184208073178115725:=t
def tw12870888531099404533:=t
def tw16919406825032445293:=t
def tw14439243815434019604:=t
def tw9277588360372424766:=t
def tw9170477692918782315:=t
def tw6184460063843016694:=t
def tw17562767543260142214:=t
def tw1439246655266547700:=t
def tw17491280204586788870:=t
def tw11210553801493137410:=t
def tw17950676927832955104:=t
def tw13267510147771200024:=t
def tw6469175993241445255:=t
def tw4115565904173853331:=t
def tw9673543361469618366:=t
def tw7153062008950511462:=t
def tw2101469004524951375:=t
def tw14984183105004643987:=t
def tw11283319371284918911:=t
def tw12394076208661396346:=t
def tw17088047866570459193:=t
def tw8343274005884668182:=t
def tw13783031573616600631:=t
def tw16259696140248634718:=t
def tw12127338746724423809:=t
def tw17420951861521290806:=t
def tw13047593935725612058:=t
def tw16477043939570097188:=t
def tw541196102884509978:=t
def tw4297731678662094536:=t
def tw7523672394736509286:=t
def tw16920754564084929960:=t
def tw9702936160620672325:=t
def tw1865391376527767206:=t
def tw5608270528595127837:=t
def tw1588505670450824345:=t
def tw5363564295841288755:=t
def tw2323474266016966308:=t
def tw18163647496604598072:=t
def tw12591134339009171964:=t
def tw432457690288141553:=t
def tw16154546982801380032:=t
def tw1452849714261714991:=t
def tw13642289790063256904:=t
def tw15152743547302097792:=t
def tw17989097746536338734:=t
def tw6830512106363814048:=t
def tw17130151131035750659:=t
def tw13566260322249332789:=t
def tw12949589719889679912:=t
def tw7698358502638924378:=t
def tw13066319289922817542:=t
def tw11136197038861592535:=t
def tw15103106377680225435:=t
def tw8716120427605611371:=t
def tw10860895700388868024:=t
def tw8356816923877370021:=t
def tw5283464899586487735:=t
def tw13363553139645760527:=t
def tw128412058910260475:=t
def tw307737655149646647:=t
def tw920214292312260371:=t
def tw7792395482447073224:=t
def tw3513125359445811510:=t
def tw5592360268479517082:=t
def tw7763873220885509757:=t
def tw12631932088317031055:=t
def tw14768889098011018680:=t
def tw6545403380812914513:=t
def tw5505332120971382143:=t
def tw1118553966540926140:=t
def tw8081886968326746073:=t
def tw17454471701868102899:=t
def tw7752767780024739350:=t
def tw4377701919642642989:=t
def tw17574625026820762457:=t
def tw15837987909243819085:=t
def tw14400467628812073631:=t
def tw8664936974563722654:=t
def tw6082411064634330575:=t
def tw15048261121198461528:=t
def tw2327210489368252092:=t
def tw13903934854276604550:=t
def tw13866372431405929976:=t
def tw15595854959937240912:=t
def tw701787995468756871:=t
def tw262745018181394680:=t
def tw16904818350239718627:=t
def tw5715356086224469760:=t
def tw8960069828448710407:=t
def tw3493717111155160527:=t
def tw8004679753235328684:=t
def tw16640546478005224243:=t
def tw16169374299450900766:=t
def tw6136932545381038964:=t
def tw17681399029576232318:=t
def tw1222794163293265305:=t
def tw5480042469492414594:=t
def tw4383666589626881386:=t
def tw2442259710966052079:=t
def tw10117440562283002822:=t
def tw17491317419825422843:=t
def tw8068729725432388964:=t
def tw17312999752573914782:=t
def tw11814627755841444246:=t
def tw6293948785866598258:=t
def tw3404104791013757517:=t
def tw6820862383352777685:=t
def tw3229955645248102723:=t
def tw14896477498954680388:=t
def tw12575139184659369484:=t
def tw5781342201191254626:=t
def tw8210421348078903774:=t
def tw5902613922787404954:=t
def tw10203026625882799534:=t
def tw13994979335412520660:=t
def tw9244321171653502345:=t
def tw14006173549557618073:=t
def tw8538877666451538035:=t
def tw4819202231147424091:=t
def tw7152984921513172624:=t
def tw7031273417212677730:=t
def tw519851828213033955:=t
def tw2608437505485318709:=t
def tw16432713993328977331:=t
def tw15463257786427224491:=t
def tw1425423193147277237:=t
def tw6868836192036940282:=t
def tw6555240042291301478:=t
def tw5657824000916062451:=t
def tw5174551420813472067:=t
def tw4111692666942324129:=t
def tw13532847315355080253:=t
def tw18241275227582772068:=t
def tw3085183777334472315:=t
def tw14029546391885035639:=t
def tw13409441903868389331:=t
def tw10024716035694756283:=t
def tw9783614193127449063:=t
def tw8184699220007379433:=t
def tw6320253292602491972:=t
def tw4870687313549177768:=t
def tw395138700845864316:=t
def tw18343703819029505601:=t
def tw18176940659606848779:=t
def tw17606422857730326317:=t
def tw16157073509204512506:=t
def tw14478148883734587675:=t
def tw13790719812936386609:=t
def tw12940713784782232206:=t
def tw12271959270614036898:=t
def tw11551083187376567056:=t
def tw10905682514733158466:=t
def tw1005483496087919985:=t
def tw5562173858411828344:=t
def tw8117029840178788049:=t
def tw4015398097383911347:=t
def tw17047115858639842297:=t
def tw15166520500009309586:=t
def tw11953376511379268794:=t
def tw9719896912496429819:=t
def tw9087110039335098043:=t
def tw4272726840584523970:=t
def tw12611767792052310623:=t
def tw10404513684093684653:=t
def tw6931407450589930559:=t
def tw4136554803537287180:=t
def tw13225837485096350037:=t
def tw5629675986466331604:=t
def tw13638418597567726942:=t
def tw11079593142295127227:=t
def tw9990345226319884068:=t
def tw5247051413645994129:=t
def tw16376525773666504680:=t
def tw13609717118414637909:=t
def tw12393119488966705847:=t
def tw7610815399733428385:=t
def tw17672654358674132775:=t
def tw13122850982685727845:=t
def tw9013056391748086436:=t
def tw7914949630228597729:=t
def tw13038990169509382042:=t
def tw4788038989552484473:=t
def tw15529170255622000948:=t
def tw14567429538950270057:=t
def tw11905163887095721015:=t
def tw9731375825926819010:=t
end hd
open _root_.List renaming length->R
open _root_ renaming rfl->H,Nat->M,List->V,decide->b8,Int->al,Bool->bn
open _root_.Bool renaming true->pH,false->Zt
open _root_.PySem renaming Addr->sE,Heap->ds,Str->ap,Env->dL,Expr->bm
open _root_ renaming Option->sF,if_neg->sH,if_pos->sI,congrArg->sJ,decide_eq_true->sM,noConfusion_of_Nat->sN,of_decide_eq_true->sQ,decide_eq_false->sT,of_decide_eq_false->sW,beq_self_eq_true->tJ,decide_eq_decide->t6,decide_eq_true_eq->ud,False->uF,beq_iff_eq->uP,Array->uX,decide_eq_true_iff->u2,congrFun->vE,or_congr_right->w8,ForInStep->zf,if_true->Aa,DecidableEq->Cm
open _root_.PySem renaming wpAny_bind->sG,wpAny_pure->sO,Value->sR,sizeLine_eq->sS,mainGlobals->sV,starEach->sZ,Shared->s8,wpAny->td,sizeLine->th,NameKind->tM,builtinsNs->tO,Comprehension->t4,tupleKind->t5,wpAny_newObj_type->uc,wpAny_holding->uf,DictEntry->uo,wpAny_mono->uB,isTrue->uD,wpAny_typeNameOfWhole_keyiter->uI,wpAny_assign_Name->uL,foldedSetIterable->uM,backTo->uO,wpAny_call_entry->uV,compareOp->u7,wpAny_truthy_bool->vg,wpAny_typeNameOf_keyiter->vq,intKind->vt,Around->vy,wpAny_callSpecial?_slot->vB,swapsWith->vO,valueOrNone->v7,binaryOp->wm,swappedStores->wo,spliced->wt,call_meets->wF,PyData->w6,wpAny_dictEntries->w7,wpAny_isTrue_Compare1->xt,wpAny_standAt->x9,Scope->ye,letOwnedTupleGo->yu,sysModules->zj,slot_list_getitem->Ab,Builtin->Ac,interactive->Ae,attributeBase->Au,CmpOp->A0,FuncData->A4,bootBuiltins->Bu,allTrue->Bv,wpAny_typeOf->Bx,evalOpt->By,execs->BY,wpAny_execs_nil->BZ,wpAny_dictEpoch->B0,codeAny_builtin->B1,wpAny_notOrdered_dict->B8,wpAny_isOneOf_keyiter->B9,builtinLookup_eq_fast->Ca,dictSetDefault->Cv,behindInMarks->Dq,assignInOrder->Ds,plainId_quiet->Dt,Operator->Ed,standAt->Ef,holding->Eg,codeAny->Ek,codeAny_mono->Em,Arguments->Fm,cLine->Gd,Program->GY,valueAt->GZ,model->Ha,atKey->Hd,pyNext->Hj,assign->Hk
open _root_.PyProof.Rows renaming slot_tuple_getitem->wB,args_cons->xD,IntsAre->zc,stores1->Bz,tail_any->Eh,args_nil->Eo,Call_->Hi
open _root_.PySem.W renaming emptyDict->wY,instObj->za,cellsFrom_some->Cr,keepIn->Fh,findIn->Hh
open _root_.Option renaming some->J,none->sD
open _root_.Option.some renaming inj->gv
open _root_.List renaming length_map->gy,mem_of_getElem?->gz,getElem?_eq_some_iff->gB,map_append->gF,getElem?_map->gG,mem_cons_of_mem->gH,mem_cons_self->gI,mem_singleton->gJ,length_append->gK,mem_map->gL,getElem?_eq_getElem->gM,range->gN,mem_append->gP,mem_append_right->gU,mem_append_left->gV,append_assoc->gW,mem_cons->gX,append_nil->gY,replicate->hU,getElem?_append_left->hV,take_length->ic,getElem?_of_mem->ie,getElem?_append_right->il,length_range->iq,length_cons->iu,getElem?_eq_none->iz,length_take->iA,mem_map_of_mem->iD,mem_singleton_self->iE,mem_filter->iH,getD_eq_getElem?_getD->iJ,nodup_cons->iK,mem_range->iM,map_cons->iN,nodup_append->iP,map_map->iS,nodup_nil->iU,forall_mem_cons->iY,all_eq_true->i9,length_filter_le->jb,map_singleton->jc,length_drop->je,getElem?_eq_none_iff->jg,ext_getElem?->jj,drop_eq_getElem_cons->jk,drop_zero->jm,getElem?_inj->jq,length->jr,getElem?_set->jx,length_replicate->jA,mem_of_mem_take->jC,map_id->jL,size_toArray->jM,find?_cons_of_neg->jN,pairwise_cons->jP,filter_append->jS,take_of_length_le->jT,length_singleton->jU,pairwise_map->jV,length_take_le'->jW,sum_cons->jX,not_mem_nil->jY,map_eq_cons_iff->kg,set_set->ki,set_append_right->kj,perm_append_singleton->km,find?_cons_of_pos->kC,lookup_cons->kG,getElem?_range->kJ,getElem?_mapIdx->kK,ctorIdx->kL,take_append_drop->kR,pairwise_append->kU,map_congr_left->k9,contains_iff_mem->lg,map_eq_nil_iff->lj,range_succ->ll,getElem?_drop->lB,take_succ_eq_append_getElem->lC,getElem?_take_of_lt->lD,map_const'->lE,mem_or_eq_of_mem_set->lH,length_set->lI,perm_append_comm->lJ,cons_ne_nil->lS,pairwise_singleton->lY,drop_eq_nil_of_le->lZ,count_append->l0,drop_length->l5,filter_cons_of_neg->l6,filter_cons_of_pos->l7,mem_flatMap->l9,cons_append->mh,set_append_left->mj,mem_of_mem_drop->mn,nil_append->mq,getElem?_set_ne->mB,mem_zipIdx_iff_getElem?->mM,set_getElem_self->mN,map_set->mP,foldl_append->mQ,getElem?_singleton->mT,nil_sublist->mU,map_take->mW,map_drop->mX,length_nil->m5,filter_eq_self->m6,filter_eq_nil_iff->m7,set->m8,isEmpty_iff->ny,getElem?_zip_eq_some->nE,getElem?_replicate->nF,mem_of_find?_eq_some->nH,find?_eq_none->nJ,take_left->nN,mapIdx_append->nT,take_succ_cons->nV,all_map->nW,length_flatMap->nX,sum_append->nY,drop_left->n6,getElem?_set_self'->oi,findIdx?_cons->oy,replicate_succ->oN,length_reverse->oP,filterMap_cons_some->oS,set_eq_of_length_le->oT,length_mapIdx->oV,countP_eq_zero->oW,count_le_length->oX,count_singleton->oY,flatMap_append->oZ,mem_filterMap->o3,length_filterMap_le->o4,zipIdx_append->o5,perm_append_comm_assoc->o6,length_zipIdx->o8,append_eq_nil_iff->pg,sublist_append_left->ph,sum_replicate_nat->pk,filter_sublist->px,count_eq_zero_of_not_mem->pz,getElem?_cons_succ->pA,length_take_le->pD
open _root_.Nat renaming le_trans->gA,le_refl->gC,zero_le->gE,sub_add_cancel->gO,le_of_ble_eq_true->gQ,le_antisymm->gZ,lt_of_lt_of_le->ij,zero_add->iB,lt_succ_self->iC,not_lt_zero->iF,le_of_lt->iG,sub_self->iI,min_eq_left->iO,min_le_right->iT,lt_irrefl->iV,lt_or_ge->iZ,le_of_eq->i5,lt_succ_of_lt->ja,le_of_not_lt->jd,ne_of_lt->jh,testBit_or->jt,not_lt->jv,add_le_add->jE,ne_of_beq_eq_false->jJ,min_le_left->jK,succ_le_succ->jO,le_add_right->jR,ne_of_gt->j8,ctorIdx->ke,succ_mul->ko,lt_or_eq_of_le->kq,lt_of_le_of_ne->kr,add_assoc->ku,mul_le_mul_right->kA,sub_le->kE,le_succ->kI,lt_succ_iff->kM,zero_testBit->kO,succ_ne_zero->kT,mul_le_mul_left->kV,pos_of_ne_zero->kY,pow_le_pow_right->lA,le_succ_of_le->lF,lt_succ_of_le->lG,sub_zero->lL,add_comm->lM,succ->lN,lt_of_le_of_lt->lT,le_of_lt_succ->mv,add_zero->mw,mul_one->mz,lt_trans->mI,two_pow_pos->mO,testBit_two_pow->mS,succ_pos->mV,testBit_two_pow_self->mY,le_add_left->mZ,add_right_comm->nh,zero_mul->nj,lt_of_not_le->nk,not_lt_of_le->nq,shiftRight_eq_div_pow->nR,min_eq_right->nS,add_sub_cancel->nU,add_lt_add_of_lt_of_le->n7,sub_le_iff_le_add->n8,add_le_add_left->ou,lt_of_succ_lt_succ->oz,not_succ_le_zero->oA,le_of_succ_le_succ->oB,not_succ_le_self->o9,le_of_sub_eq_zero->pe,add_sub_cancel_left->pf,add_le_add_right->pj,le_one_iff_eq_zero_or_eq_one->pq,sub_lt_sub_left->pv,add_lt_add_left->pB,lt_add_of_pos_right->pC
open _root_.Option renaming map_eq_some_iff->gR,isSome_iff_exists->j5,bind_eq_some_iff->kB,some_ne_none->m9,map_eq_none_iff->nI,map_some->nO
open _root_.Prod renaming fst->gS,ext->ji,snd->j3
open _root_.PySem.PyData renaming eqv->g6,strOk->jI,eqvAll->kF,canLayAll0->ot
open _root_.Int renaming ofNat_lt->g8,natCast_nonneg->ig,ofNat_le->jf,toNat_natCast->jl,not_lt->jy,ofNat->jz,toNat_of_nonneg->lR,le_trans->lW,lt_of_le_of_lt->lX,le_of_lt->mG,fdiv_eq_ediv_of_nonneg->oU,fmod_eq_emod_of_nonneg->pw
open _root_.Bool renaming false_ne_true->iw,and_eq_true_iff->iL,and_eq_true->jn,or_eq_true->jo,eq_iff_iff->jG,not_eq_true'->j6,eq_false_iff->kX,noConfusion->lh,false_bne->lK,and_false->nG,not_eq_false'->nQ,or_true->nZ,true_bne->n4,and_true->n5,false_eq_true->oI
open _root_.Int.ofNat renaming inj->iQ
open _root_.Array renaming length_toList->iR,getElem?_eq_getElem->k8,getElem?_toList->lP,toList_append->nz,size_append->nA,toList_push->oH
open _root_.PySem.Heap renaming get?_push_size->iW,lt_size->i7,SameBut->ju,get?_push_of_some->jH,get?_update_self->kH,size_push->nM,get?_update_other->pE,get?_some_iff->pF
open _root_.Prod.mk renaming inj->iX
open _root_.PySem.Builtin renaming bitNot->jB,bitAnd->mC,bitOr->mD
open _root_.Eq renaming mp->jD,symm->ky
open _root_.PySem.Value renaming isInt->jF,isStrOf->jZ,ref->kb,isInt_shape->kW,ctorIdx->lO,none->lU,isStrOf_shape->mA,int->mH,type->nv
open _root_.PySem.Heap.SameBut renaming update->jQ
open _root_.PySem.Data renaming ctorIdx->j0
open _root_.PySem renaming call->j9,getItem->lQ,setItem->nK
open _root_.PySem.Expr renaming Name->kh
open _root_.Iff renaming mpr->kD
open _root_.List.cons renaming inj->kP
open _root_.List.Perm renaming refl->kQ,swap->l8,cons->md,append_left->o7
open _root_.And renaming right->kZ,left->mK
open _root_.PySem.Builtin.Range renaming rangeSize->lV,small->oG
open _root_.PySem.Str renaming ofString->mE
open _root_.PySem.Value.ref renaming inj->mF
open _root_.PySem.Builtin.List renaming listTooLong->mJ,listSameRef->oL
open _root_.PySem.F renaming plainAttrs_list->mL,called_tuple->nP,slot_tuple_add->oj,entry_tuple_add->oo,args_tuple_add_2->oq,slot_list_append->oJ,plain_list_iadd->oK,plain_tuple_new->oM,slot_int_rmul->oO,plainAttrs_dict->oQ
open _root_.List.Sublist renaming refl->mR
open _root_.Classical renaming propDecidable->nr
open _root_.PySem.Heap.IsSliceOf renaming new->nB
open _root_.PySem.Value.int renaming inj->n9
open _root_.PySem.Value.str renaming inj->og
open _root_.PySem.Heap.DictOf renaming new->oh
open _root_.List.Pairwise renaming of_map->ox
open _root_.PySem.Builtin.Dict renaming showsAll->oE
open _root_.PySem.Data.dict renaming inj->oF
open _root_.List.eraseDupsBy renaming loop->oR
variable {Cl ad a c c1 c2 c8 cp cr d da f fm g l nu pn:sE} {Fa dr:sE->Prop} {A:vy} {cz ws:uX sR} {cM mf sr:bn} {ZI env:dL} {ea eb ec kx:bm} {fw:Frag} {h h' ó h3:ds} {d7 d8 d9 hs:al} {be:V ((M×M)×M)} {gw:V (V M)} {cm ps:V (M×V M)} {I I' rC J':V (M×M)} {Zw:V (sF ap)} {ra ua:V sE} {as cA:V bm} {fp:V al} {ld ts w w0 σ:V M} {cD ZD:V ap} {cN dj:V sR} {N X sC i j k m r t y:M} {gc:M×V M} {gi k' p:M×M} {ca:M->sE} {fh:M->ds->Prop} {cR cj:M->V M} {F ht ht' ms:M->M} {P:M->M->Prop} {od:Obj} {tr:sF (V M)} {p1 p2 pos œ tpos:Pos} {dw dz prog:GY} {Q ck cu cv d0 d3:Prop} {cw fu:ye} {ej:Sem sR} {s' s1 s3 kt:s8} {de name nl:ap} {fc fe:String} {dv vo vv:sR} {am Q₁ er:sR->s8->Prop} {e7:World}
universe u v w x y z
@[elab_as_elim] theorem D{α:Sort u}{b:α}{P:α->Prop}{a:α}(h:a=b)(k:P b):P a:=h▸k
@[elab_as_elim] theorem AU{P:Prop->Prop}(h:Q<->ck)(k:P ck):P Q:=propext h▸k
@[elab_as_elim] theorem tj{α:Sort u}{b:α}{P:α->Prop}{a:α}(h:b=a)(k:P b):P a:=h▸k
theorem s9{A B:α->Prop}(h:∃a,A a/\B a)(k:∀a,A a->B a->Q):Q:=h.elim λa g=>k a g.1 g.2
theorem xA(h:ck/\cu)(k:ck->cu->Q):Q:=k h.1 h.2
theorem xE{A:α->Prop}(h:∃a,A a)(k:∀a,A a->Q):Q:=h.elim λa g=>k a g
theorem tW{A B C:α->Prop}(h:∃a,A a/\B a/\C a)(k:∀a,A a->B a->C a->Q):Q:=h.elim λa g=>k a g.1 g.2.1 g.2.2
theorem zY(h:ck/\cu/\cv)(k:ck->cu->cv->Q):Q:=k h.1 h.2.1 h.2.2
theorem t8{A B C:α->β->Prop}(h:∃a,∃b,A a b/\B a b/\C a b)(k:∀a,∀b,A a b->B a b->C a b->Q):Q:=h.elim λa g=>g.elim λb i=>k a b i.1 i.2.1 i.2.2
theorem vX{A B:α->β->Prop}(h:∃a,∃b,A a b/\B a b)(k:∀a,∀b,A a b->B a b->Q):Q:=h.elim λa g=>g.elim λb i=>k a b i.1 i.2
theorem KC{A:α->β->Prop}(h:∃a,∃b,A a b)(k:∀a,∀b,A a b->Q):Q:=h.elim λa g=>g.elim λb i=>k a b i
theorem vL{A B:α->β->γ->Prop}(h:∃a,∃b,∃c,A a b c/\B a b c)(k:∀a,∀b,∀c,A a b c->B a b c->Q):Q:=h.elim λa g=>g.elim λb i=>i.elim λc j=>k a b c j.1 j.2
theorem w5{A B C:α->β->γ->Prop}(h:∃a,∃b,∃c,A a b c/\B a b c/\C a b c)(k:∀a,∀b,∀c,A a b c->B a b c->C a b c->Q):Q:=h.elim λa g=>g.elim λb i=>i.elim λc j=>k a b c j.1 j.2.1 j.2.2
theorem D9(h:ck/\cu/\cv/\d0)(k:ck->cu->cv->d0->Q):Q:=k h.1 h.2.1 h.2.2.1 h.2.2.2
theorem vS{A B C ad:α->β->Prop}(h:∃a,∃b,A a b/\B a b/\C a b/\ad a b)(k:∀a,∀b,A a b->B a b->C a b->ad a b->Q):Q:=h.elim λa g=>g.elim λb i=>k a b i.1 i.2.1 i.2.2.1 i.2.2.2
theorem t9{A B C ad:α->β->γ->Prop}(h:∃a,∃b,∃c,A a b c/\B a b c/\C a b c/\ad a b c)(k:∀a,∀b,∀c,A a b c->B a b c->C a b c->ad a b c->Q):Q:=h.elim λa g=>g.elim λb i=>i.elim λc j=>k a b c j.1 j.2.1 j.2.2.1 j.2.2.2
theorem vz{A B C ad F:α->β->γ->Prop}(h:∃a,∃b,∃c,A a b c/\B a b c/\C a b c/\ad a b c/\F a b c)(k:∀a,∀b,∀c,A a b c->B a b c->C a b c->ad a b c->F a b c->Q):Q:=h.elim λa g=>g.elim λb i=>i.elim λc j=>k a b c j.1 j.2.1 j.2.2.1 j.2.2.2.1 j.2.2.2.2
theorem Mz{B C:α->Prop}(h:ck/\∃a,B a/\C a)(k:ck->∀a,B a->C a->Q):Q:=h.2.elim λa g=>k h.1 a g.1 g.2
theorem yf{A B C ad:α->Prop}(h:∃a,A a/\B a/\C a/\ad a)(k:∀a,A a->B a->C a->ad a->Q):Q:=h.elim λa g=>k a g.1 g.2.1 g.2.2.1 g.2.2.2
theorem BV{B C:α->β->Prop}(h:ck/\∃a,∃b,B a b/\C a b)(k:ck->∀a,∀b,B a b->C a b->Q):Q:=h.2.elim λa g=>g.elim λb i=>k h.1 a b i.1 i.2
theorem Cg(h:ck/\cu/\cv/\d0/\d3)(k:ck->cu->cv->d0->d3->Q):Q:=k h.1 h.2.1 h.2.2.1 h.2.2.2.1 h.2.2.2.2
theorem C1{A B C ad F G:α->β->γ->Prop}(h:∃a,∃b,∃c,A a b c/\B a b c/\C a b c/\ad a b c/\F a b c/\G a b c)(k:∀a,∀b,∀c,A a b c->B a b c->C a b c->ad a b c->F a b c->G a b c->Q):Q:=h.elim λa g=>g.elim λb i=>i.elim λc j=>k a b c j.1 j.2.1 j.2.2.1 j.2.2.2.1 j.2.2.2.2.1 j.2.2.2.2.2
theorem WI{A:α->β->γ->Prop}(h:∃a,∃b,∃c,A a b c)(k:∀a,∀b,∀c,A a b c->Q):Q:=h.elim λa g=>g.elim λb i=>i.elim λc j=>k a b c j
theorem Nz{A:α->β->γ->δ->Prop}(h:∃a,∃b,∃c,∃d,A a b c d)(k:∀a,∀b,∀c,∀d,A a b c d->Q):Q:=h.elim λa g=>g.elim λb i=>i.elim λc j=>j.elim λd l=>k a b c d l
theorem PM{A B:α->β->γ->δ->Prop}(h:∃a,∃b,∃c,∃d,A a b c d/\B a b c d)(k:∀a,∀b,∀c,∀d,A a b c d->B a b c d->Q):Q:=h.elim λa g=>g.elim λb i=>i.elim λc j=>j.elim λd l=>k a b c d l.1 l.2
theorem Ci{A B C ad:α->β->γ->δ->Prop}(h:∃a,∃b,∃c,∃d,A a b c d/\B a b c d/\C a b c d/\ad a b c d)(k:∀a,∀b,∀c,∀d,A a b c d->B a b c d->C a b c d->ad a b c d->Q):Q:=h.elim λa g=>g.elim λb i=>i.elim λc j=>j.elim λd l=>k a b c d l.1 l.2.1 l.2.2.1 l.2.2.2
theorem xw{A B C ad F:α->β->γ->δ->Prop}(h:∃a,∃b,∃c,∃d,A a b c d/\B a b c d/\C a b c d/\ad a b c d/\F a b c d)(k:∀a,∀b,∀c,∀d,A a b c d->B a b c d->C a b c d->ad a b c d->F a b c d->Q):Q:=h.elim λa g=>g.elim λb i=>i.elim λc j=>j.elim λd l=>k a b c d l.1 l.2.1 l.2.2.1 l.2.2.2.1 l.2.2.2.2
theorem ti{A B:α->Prop}(a)(p0:A a)(p1:B a):∃a,A a/\B a:=⟨a,p0,p1⟩
theorem tC{A B C:α->Prop}(a)(p0:A a)(p1:B a)(p2:C a):∃a,A a/\B a/\C a:=⟨a,p0,p1,p2⟩
theorem uS(p0:Q)(p1:ck)(p2:cu):Q/\ck/\cu:=⟨p0,p1,p2⟩
theorem tU{A B C:α->β->Prop}(a)(b)(p0:A a b)(p1:B a b)(p2:C a b):∃a,∃b,A a b/\B a b/\C a b:=⟨a,b,p0,p1,p2⟩
theorem uY{A B C ad:α->β->Prop}(a)(b)(p0:A a b)(p1:B a b)(p2:C a b)(p3:ad a b):∃a,∃b,A a b/\B a b/\C a b/\ad a b:=⟨a,b,p0,p1,p2,p3⟩
theorem tq{A B C ad F:α->β->γ->Prop}(a)(b)(c)(p0:A a b c)(p1:B a b c)(p2:C a b c)(p3:ad a b c)(p4:F a b c):∃a,∃b,∃c,A a b c/\B a b c/\C a b c/\ad a b c/\F a b c:=⟨a,b,c,p0,p1,p2,p3,p4⟩
theorem w1{A B:α->β->Prop}(a)(b)(p0:A a b)(p1:B a b):∃a,∃b,A a b/\B a b:=⟨a,b,p0,p1⟩
theorem KD{A:α->β->Prop}(a)(b)(p0:A a b):∃a,∃b,A a b:=⟨a,b,p0⟩
theorem Dz{A:α->β->γ->Prop}(a)(b)(c)(p0:A a b c):∃a,∃b,∃c,A a b c:=⟨a,b,c,p0⟩
theorem AV(p0:Q)(p1:ck)(p2:cu)(p3:cv):Q/\ck/\cu/\cv:=⟨p0,p1,p2,p3⟩
theorem uQ{A B C ad:α->β->γ->Prop}(a)(b)(c)(p0:A a b c)(p1:B a b c)(p2:C a b c)(p3:ad a b c):∃a,∃b,∃c,A a b c/\B a b c/\C a b c/\ad a b c:=⟨a,b,c,p0,p1,p2,p3⟩
theorem yS{A B:α->Prop}{C:α->β->Prop}(a)(p0:A a)(p1:B a)(b)(p2:C a b):∃a,A a/\B a/\∃b,C a b:=⟨a,p0,p1,b,p2⟩
theorem wU{A B C ad:α->Prop}(a)(p0:A a)(p1:B a)(p2:C a)(p3:ad a):∃a,A a/\B a/\C a/\ad a:=⟨a,p0,p1,p2,p3⟩
theorem Ir{A:α->Prop}{B:α->β->Prop}(a)(p0:A a)(b)(p1:B a b):∃a,A a/\∃b,B a b:=⟨a,p0,b,p1⟩
theorem vA{A:α->Prop}{B C:α->β->Prop}(a)(p0:A a)(b)(p1:B a b)(p2:C a b):∃a,A a/\∃b,B a b/\C a b:=⟨a,p0,b,p1,p2⟩
theorem NA{A B:α->β->γ->Prop}(a)(b)(c)(p0:A a b c)(p1:B a b c):∃a,∃b,∃c,A a b c/\B a b c:=⟨a,b,c,p0,p1⟩
theorem Fb{A B C:α->β->γ->Prop}(a)(b)(c)(p0:A a b c)(p1:B a b c)(p2:C a b c):∃a,∃b,∃c,A a b c/\B a b c/\C a b c:=⟨a,b,c,p0,p1,p2⟩
theorem C2{A B C ad F G:α->β->γ->Prop}(a)(b)(c)(p0:A a b c)(p1:B a b c)(p2:C a b c)(p3:ad a b c)(p4:F a b c)(p5:G a b c):∃a,∃b,∃c,A a b c/\B a b c/\C a b c/\ad a b c/\F a b c/\G a b c:=⟨a,b,c,p0,p1,p2,p3,p4,p5⟩
theorem DA{B C ad:α->β->Prop}(p0:Q)(a)(b)(p1:B a b)(p2:C a b)(p3:ad a b):Q/\∃a,∃b,B a b/\C a b/\ad a b:=⟨p0,a,b,p1,p2,p3⟩
theorem G9{B C:α->β->Prop}(p0:Q)(a)(b)(p1:B a b)(p2:C a b):Q/\∃a,∃b,B a b/\C a b:=⟨p0,a,b,p1,p2⟩
theorem Cj(p0:Q)(p1:ck)(p2:cu)(p3:cv)(p4:d0):Q/\ck/\cu/\cv/\d0:=⟨p0,p1,p2,p3,p4⟩
theorem zi{A B C ad:α->β->γ->δ->Prop}(a)(b)(c)(d)(p0:A a b c d)(p1:B a b c d)(p2:C a b c d)(p3:ad a b c d):∃a,∃b,∃c,∃d,A a b c d/\B a b c d/\C a b c d/\ad a b c d:=⟨a,b,c,d,p0,p1,p2,p3⟩
theorem vN{A B C ad F:α->β->γ->δ->Prop}(a)(b)(c)(d)(p0:A a b c d)(p1:B a b c d)(p2:C a b c d)(p3:ad a b c d)(p4:F a b c d):∃a,∃b,∃c,∃d,A a b c d/\B a b c d/\C a b c d/\ad a b c d/\F a b c d:=⟨a,b,c,d,p0,p1,p2,p3,p4⟩
theorem Jq{A B C ad F:α->β->Prop}(a)(b)(p0:A a b)(p1:B a b)(p2:C a b)(p3:ad a b)(p4:F a b):∃a,∃b,A a b/\B a b/\C a b/\ad a b/\F a b:=⟨a,b,p0,p1,p2,p3,p4⟩
theorem xy{A:α->Prop}{B C ad:α->β->Prop}(a)(p0:A a)(b)(p1:B a b)(p2:C a b)(p3:ad a b):∃a,A a/\∃b,B a b/\C a b/\ad a b:=⟨a,p0,b,p1,p2,p3⟩
@[elab_as_elim] theorem Ea{α:Sort u}{τ:Sort y}{f:α->τ}{Q:τ->Prop}(z:τ)(h:∃a,z=f a)(k:∀a,Q (f a)):Q z:=by
 obtain ⟨p0,rfl⟩:=h;exact k p0
@[elab_as_elim] theorem Zs{α:Sort u}{τ:Sort y}{f:α->τ}{Q:τ->Prop}(z:τ)(h:∃a,f a=z)(k:∀a,Q (f a)):Q z:=by
 obtain ⟨p0,rfl⟩:=h;exact k p0
@[elab_as_elim] theorem Bt{α:Sort u}{A:α->Prop}{τ:Sort y}{f:α->τ}{Q:τ->Prop}(z:τ)(h:∃a,A a/\z=f a)(k:∀a,A a->Q (f a)):Q z:=by
 obtain ⟨p0,p1,rfl⟩:=h;exact k p0 p1
@[elab_as_elim] theorem vp{α:Sort u}{A:α->Prop}{τ:Sort y}{f:α->τ}{Q:τ->Prop}(z:τ)(h:∃a,A a/\f a=z)(k:∀a,A a->Q (f a)):Q z:=by
 obtain ⟨p0,p1,rfl⟩:=h;exact k p0 p1
@[elab_as_elim] theorem YR{α:Sort u}{A:α->Prop}{B:α->Prop}{τ:Sort y}{f:α->τ}{Q:τ->Prop}(z:τ)(h:∃a,A a/\B a/\z=f a)(k:∀a,A a->B a->Q (f a)):Q z:=by
 obtain ⟨p0,p1,p2,rfl⟩:=h;exact k p0 p1 p2
@[elab_as_elim] theorem WJ{α:Sort u}{A:α->Prop}{B:α->Prop}{τ:Sort y}{f:α->τ}{Q:τ->Prop}(z:τ)(h:∃a,A a/\B a/\f a=z)(k:∀a,A a->B a->Q (f a)):Q z:=by
 obtain ⟨p0,p1,p2,rfl⟩:=h;exact k p0 p1 p2
@[elab_as_elim] theorem WK{α:Sort u}{β:Sort v}{A:α->β->Prop}{τ:Sort y}{f:α->β->τ}{Q:τ->Prop}(z:τ)(h:∃a,∃b,A a b/\z=f a b)(k:∀a,∀b,A a b->Q (f a b)):Q z:=by
 obtain ⟨p0,p1,p2,rfl⟩:=h;exact k p0 p1 p2
@[elab_as_elim] theorem PN{α:Sort u}{β:Sort v}{A:α->β->Prop}{B:α->β->Prop}{τ:Sort y}{f:α->β->τ}{Q:τ->Prop}(z:τ)(h:∃a,∃b,A a b/\B a b/\z=f a b)(k:∀a,∀b,A a b->B a b->Q (f a b)):Q z:=by
 obtain ⟨p0,p1,p2,p3,rfl⟩:=h;exact k p0 p1 p2 p3
theorem z9{α:Type u}{x:α}(e:([]:V α)[i]?=J x):Q:=absurd (e.symm.trans List.getElem?_nil) (m9 x)
theorem uG{α:Type u}{x:α}(h:x∈[]):Q:=absurd h jY
theorem uH{α:Type u}{a:α}(h:sD=J a):Q:=absurd h.symm (m9 a)
theorem E9{α:Type u}{a:α}(h:J a=sD):Q:=absurd h (m9 a)
theorem tf(h:pH=Zt):Q:=absurd h.symm iw
theorem ft(h:Zt=pH):Q:=absurd h iw
theorem Io(h:k<j+1)(e:¬ k=j):k<j:=kr (mv h) e
theorem Za(h:k<=j)(e:¬ k=j):k<j:=kr h e
theorem Zb{α:Type u}{p:α->Prop}{a:α}{l:V α}:(∃x,x∈a::l/\p x)<->p a\/∃x,x∈l/\p x:=⟨λh=>s9 h λx h k=>(gX.mp h).elim (λe=>.inl (e▸k)) λh=>.inr ⟨x,h,k⟩,λh=>h.elim (λk=>⟨a,gI,k⟩) λh=>s9 h λx h k=>⟨x,gH _ h,k⟩⟩
theorem Zc{p:M->Prop}:(∃q,p q)<->p 0\/∃q,p (q+1):=⟨λh=>xE h λq h=>by
 cases q with
 | zero=>exact .inl h
 | succ q=>exact .inr ⟨q,h⟩,λh=>h.elim (λh=>⟨0,h⟩) λh=>xE h λq h=>⟨q+1,h⟩⟩
theorem u5{α:Type u}(a:α):[a].Nodup:=iK.mpr ⟨jY,iU⟩
inductive Ex where
 | v (i:M)
 | n (k:M)
 | add (a b:Ex)
 | mulL (k:M) (a:Ex)
 | mulR (a:Ex) (k:M)
noncomputable def Ex.den(w x:M->M)(e:Ex):M:=e.rec x w (λø ø a b=>a+b) (λk ø a=>w k*a) (λø k a=>a*w k)
noncomputable def Eb:M->M->V M->V M
 | 0,k,l=>(l.headD 0+k)::l.tail
 | i+1,k,l=>l.headD 0::Eb i k l.tail
noncomputable def Ex.to(w:M->M)(e:Ex):M->V M->V M:=e.rec (λi k l=>Eb (i+1) k l) (λc k l=>Eb 0 (k*w c) l) (λø ø a b k l=>b k (a k l)) (λc ø a k l=>a (k*w c) l) (λø c a k l=>a (k*w c) l)
noncomputable def lv(x:M->M):M->V M->M
 | _,[]=>0
 | i,c::l=>c*x i+lv x (i+1) l
noncomputable def x1(x:M->M)(i:M):M:=i.casesOn 1 x
theorem Ck(x:M->M):∀(i k:M) (l:V M) (j:M),lv x j (Eb i k l)=lv x j l+k*x (j+i)
 | 0,k,[],j=>by refine(?_:(0+k)*x j+0=0+k*x j);exact D (iB _) (D (iB _) (D (mw _) H))
 | 0,k,c::l,j=>by refine(?_:(c+k)*x j+lv x (j+1) l=c*x j+lv x (j+1) l+k*x j);rw[Nat.add_mul,nh]
 | i+1,k,[],j=>by refine(?_:0*x j+lv x (j+1) (Eb i k [])=0+k*x (j+(i+1)));refine D (Ck x i k [] (j+1)) (D (nj _) (D (iB _) (D (show j+1+i=j+(i+1) by (rewrite[ku];exact D (lM 1 _) H)) ?_)));rfl
 | i+1,k,c::l,j=>by refine(?_:c*x j+lv x (j+1) (Eb i k l)=c*x j+lv x (j+1) l+k*x (j+(i+1)));(refine D (Ck x i k l (j+1)) ?_;rewrite[<- ku];exact D (show j+1+i=j+(i+1) by (rewrite[ku];exact D (lM 1 _) H)) H)
theorem Jr(w x:M->M)(e:Ex):∀(k:M) (l:V M),lv (x1 x) 0 (e.to w k l)=lv (x1 x) 0 l+k*e.den w x:=by
 induction e with
 | v i=>intro k l;exact(Ck (x1 x) (i+1) k l 0).trans (by refine D (iB _) ?_;rfl)
 | n c=>intro k l;exact(Ck (x1 x) 0 (k*w c) l 0).trans (by refine(?_:_+k*w c*1=_);refine D (mz _) ?_;rfl)
 | add a b ha hb=>intro k l;refine(?_:lv _ 0 (b.to w k (a.to w k l))=_);(refine D (hb _ _) (D (ha _ _) ?_);rewrite[ku,<- Nat.mul_add]);rfl
 | mulL c a ha=>intro k l;refine(?_:lv _ 0 (a.to w (k*w c) l)=_);(refine D (ha _ _) ?_;rewrite[Nat.mul_assoc]);rfl
 | mulR a c ha=>intro k l;refine(?_:lv _ 0 (a.to w (k*w c) l)=_);(refine D (ha _ _) ?_;rewrite[Nat.mul_assoc];refine D (Nat.mul_comm (w c) _) ?_);rfl
structure Cn where
 ah:M
 aA:M
 aB:Ex
 ao:Ex
noncomputable def Cn.den(w x:M->M)(c:Cn):Prop:=c.ah.casesOn (c.aB.den w x<=c.ao.den w x) λk=>k.casesOn (c.aB.den w x<c.ao.den w x) λk=>k.casesOn (c.aB.den w x=c.ao.den w x) λk=>k.casesOn (c.aB.den w x=c.ao.den w x) λk=>k.casesOn (¬ c.aB.den w x<=c.ao.den w x) λø=>¬ c.aB.den w x<c.ao.den w x
noncomputable def Cn.lo(w:M->M)(c:Cn)(a:V M):V M:=c.ah.casesOn (c.aB.to w c.aA a) λk=>k.casesOn (Eb 0 c.aA (c.aB.to w c.aA a)) λk=>k.casesOn (c.aB.to w c.aA a) λk=>k.casesOn (c.ao.to w c.aA a) λk=>k.casesOn (Eb 0 c.aA (c.ao.to w c.aA a)) λø=>c.ao.to w c.aA a
noncomputable def Cn.bQ(w:M->M)(c:Cn)(a:V M):V M:=c.ah.casesOn (c.ao.to w c.aA a) λk=>k.casesOn (c.ao.to w c.aA a) λk=>k.casesOn (c.ao.to w c.aA a) λk=>k.casesOn (c.aB.to w c.aA a) λk=>k.casesOn (c.aB.to w c.aA a) λø=>c.aB.to w c.aA a
theorem NB{p q:Ex}(ab:lv (x1 ms) 0 ts<=lv (x1 ms) 0 w0)(h:p.den F ms<=q.den F ms):lv (x1 ms) 0 (p.to F m ts)<=lv (x1 ms) 0 (q.to F m w0):=by
 rw[Jr,Jr];exact jE ab (kV _ h)
theorem Un{p q:Ex}(ab:lv (x1 ms) 0 ts<=lv (x1 ms) 0 w0)(h:p.den F ms<q.den F ms):lv (x1 ms) 0 (Eb 0 m (p.to F m ts))<=lv (x1 ms) 0 (q.to F m w0):=by
 refine D (Ck (x1 ms) 0 m (p.to F m ts) 0) ?_;rw[Jr,Jr,ku];exact jE ab (gA (i5 (sJ (m*p.den F ms + ·) (mz m))) (kV m h))
theorem Cn.ok(w x:M->M)(c:Cn)(h:c.den w x)(ab:lv (x1 x) 0 ts<=lv (x1 x) 0 w0):lv (x1 x) 0 (c.lo w ts)<=lv (x1 x) 0 (c.bQ w w0):=by
 cases c with
 | mk k m l r=>cases k with
  | zero=>exact NB ab h
  | succ k=>cases k with
   | zero=>exact Un ab h
   | succ k=>cases k with
    | zero=>exact NB ab (i5 h)
    | succ k=>cases k with
     | zero=>exact NB ab (i5 (ky h))
     | succ k=>cases k with
      | zero=>exact Un ab (nk h)
      | succ k=>exact NB ab (jd h)
noncomputable def Yb:V M->V M->bn
 | _,[]=>pH
 | a,c::b=>Nat.ble c (a.headD 0)&&Yb a.tail b
noncomputable def YS(a b:V M):bn:=Nat.blt (b.headD 0) (a.headD 0)&&Yb a.tail b.tail
theorem MA(x:M->M):∀(a b:V M) (i:M),Yb a b=pH->lv x i b<=lv x i a
 | _,[],_,_=>gE _
 | [],c::b,i,h=>by
  obtain ⟨h1,h2⟩:=iL.mp h;have e:c=0:=Nat.le_zero.mp (gQ h1);refine(?_:c*x i+lv x (i+1) b<=0);refine D e (D (nj _) (D (iB _) ?_));exact MA x [] b (i+1) h2
 | a::r,c::b,i,h=>by
  obtain ⟨h1,h2⟩:=iL.mp h;exact jE (kA _ (gQ h1)) (MA x r b (i+1) h2)
theorem ND(x:M->M)(a:V M):lv (x1 x) 0 a=a.headD 0+lv (x1 x) 1 a.tail:=by
 cases a with
 | nil=>rfl
 | cons c l=>refine(?_:c*1+_=_);refine D (mz _) ?_;rfl
theorem MB(x:M->M)(h:YS w ts=pH)(ab:lv (x1 x) 0 w<=lv (x1 x) 0 ts):uF:=by
 obtain ⟨h1,h2⟩:=iL.mp h;rw[ND,ND]at ab;exact iV _ (ij (n7 (gQ h1) (MA _ _ _ 1 h2)) ab)
noncomputable def Cn.goal(w x:M->M)(c:Cn):Prop:=c.ah.casesOn (¬ c.aB.den w x<=c.ao.den w x) λk=>k.casesOn (¬ c.aB.den w x<c.ao.den w x) λk=>k.casesOn (¬ c.aB.den w x=c.ao.den w x) λk=>k.casesOn (¬ c.aB.den w x=c.ao.den w x) λk=>k.casesOn (c.aB.den w x<=c.ao.den w x) λø=>c.aB.den w x<c.ao.den w x
theorem Cn.turn(w x:M->M)(c:Cn)(h:c.den w x->uF):c.goal w x:=by
 obtain ⟨k,m,l,r⟩:=c
 match k,h with
 | 0,h=>exact h
 | 1,h=>exact h
 | 2,h=>exact h
 | 3,h=>exact h
 | 4,h=>exact jd λq=>h (Nat.not_le_of_lt q)
 | _+5,h=>exact nk λq=>h (nq q)
noncomputable def Gs(w x:M->M):V Cn->Prop
 | []=>uF
 | c::r=>(r.casesOn (c.goal w x) λø ø=>c.den w x->Gs w x r)
noncomputable def MC(w x:M->M):V Cn->Prop
 | []=>uF
 | c::r=>c.den w x->MC w x r
noncomputable def KG(w:M->M):V Cn->V M->V M->bn
 | [],a,b=>YS a b
 | c::r,a,b=>KG w r (c.lo w a) (c.bQ w b)
theorem Uo(w x:M->M):∀(l:V Cn) {a b:V M},KG w l a b=pH->lv (x1 x) 0 a<=lv (x1 x) 0 b->MC w x l
 | [],_,_,h,ab=>MB x h ab
 | c::r,_,_,h,ab=>λq=>Uo w x r h (c.ok w x q ab)
theorem Up(w x:M->M):∀(l:V Cn) {a b:V M},KG w l a b=pH->lv (x1 x) 0 a<=lv (x1 x) 0 b->Gs w x l
 | [],_,_,h,ab=>MB x h ab
 | [g],_,_,h,ab=>g.turn w x λq=>MB x h (g.ok w x q ab)
 | c::c'::r,_,_,h,ab=>λq=>Up w x (c'::r) h (c.ok w x q ab)
noncomputable def Wo:M->M->Ex×M
 | 0,n=>(.n 0,n)
 | f+1,n=>(n % 32).casesOn ((λp=>(λq=>(.add p.1 q.1,q.2)) (Wo f p.2)) (Wo f (n / 32))) λt=>t.casesOn (.n (n / 32 % 32),n / 1024) λt=>
  t.casesOn ((λq=>(.mulL (n / 32 % 32) q.1,q.2)) (Wo f (n / 1024))) λt=>t.casesOn ((λq=>(.mulR q.1 (n / 32 % 32),q.2)) (Wo f (n / 1024))) λt=>(.v t,n / 32)
noncomputable def YT:M->M->V Cn
 | 0,_=>[]
 | f+1,n=>(λp=>(λq=>⟨n % 32,n / 32 % 32,p.1,q.1⟩::YT f q.2) (Wo 60 p.2)) (Wo 60 (n / 1024))
noncomputable def rd(n:M):V Cn:=YT (n % 32) (n / 32)
noncomputable def xs:V M->M->M
 | [],_=>0
 | a::r,i=>i.casesOn a λi=>xs r i
theorem om(l k:V M)(n:M)(h:KG (xs k) (rd n) [] []=pH):Gs (xs k) (xs l) (rd n):=Up _ _ _ h (gC _)
theorem XR(l k:V M)(n:M)(h:KG (xs k) (rd n) [] []=pH):MC (xs k) (xs l) (rd n):=Uo _ _ _ h (gC _)
theorem Yc(a b:M):a<=a - b+b:=n8.mp (gC _)
theorem tY(k:V M)(n:M)(h:KG (xs k) (rd n) [] []=pH):Gs (xs k) (xs [i]) (rd n):=om [i] k n h
theorem PO(k:V M)(n:M)(h:KG (xs k) (rd n) [] []=pH):MC (xs k) (xs [i]) (rd n):=XR [i] k n h
theorem tD(k:V M)(n:M)(h:KG (xs k) (rd n) [] []=pH):Gs (xs k) (xs [i,t]) (rd n):=om [i,t] k n h
theorem KP(k:V M)(n:M)(h:KG (xs k) (rd n) [] []=pH):MC (xs k) (xs [i,t]) (rd n):=XR [i,t] k n h
theorem uy(k:V M)(n:M)(h:KG (xs k) (rd n) [] []=pH):Gs (xs k) (xs [i,t,X]) (rd n):=om [i,t,X] k n h
theorem OH(k:V M)(n:M)(h:KG (xs k) (rd n) [] []=pH):MC (xs k) (xs [i,t,X]) (rd n):=XR [i,t,X] k n h
theorem Dp(k:V M)(n:M)(h:KG (xs k) (rd n) [] []=pH):Gs (xs k) (xs [i,t,X,m]) (rd n):=om [i,t,X,m] k n h
theorem Mq(k:V M)(n:M)(h:KG (xs k) (rd n) [] []=pH):Gs (xs k) (xs [i,t,X,m,N]) (rd n):=om [i,t,X,m,N] k n h
theorem Yd(k:V M)(n:M)(h:KG (xs k) (rd n) [] []=pH):MC (xs k) (xs [i,t,X,m,N]) (rd n):=XR [i,t,X,m,N] k n h
theorem Wq(k:V M)(n:M)(h:KG (xs k) (rd n) [] []=pH):Gs (xs k) (xs [i,t,X,m,N,j]) (rd n):=om [i,t,X,m,N,j] k n h
theorem YU(k:V M)(n:M)(h:KG (xs k) (rd n) [] []=pH):Gs (xs k) (xs [i,t,X,m,N,j,r]) (rd n):=om [i,t,X,m,N,j,r] k n h
theorem YV(k:V M)(n:M)(h:KG (xs k) (rd n) [] []=pH):Gs (xs k) (xs [i,t,X,m,N,j,r,y]) (rd n):=om [i,t,X,m,N,j,r,y] k n h
theorem Zd(k:V M)(n:M)(h:KG (xs k) (rd n) [] []=pH):Gs (xs k) (xs [i,t,X,m,N,j,r,y,sC]) (rd n):=om [i,t,X,m,N,j,r,y,sC] k n h
open PySem PySem.W PySem.Calls PyProof.Rows
set_option genInjectivity true in
set_option genCtorIdx true in
inductive LV where
 | none | bool (b:bn) | int (i:al) | str (s:ap) | tup (vs:V LV) | ref (a:sE)
 deriving Inhabited
variable {b d5 ZM wE sv sy v:LV} {Zy:V (LV×LV)} {fs vs ys:V LV} {y10 y11 y12 pi y4 y6 y7 y8 y9:sF LV}
set_option genInjectivity true in
set_option genCtorIdx true in
inductive LO where
 | list (vs:V LV)
 | dict (Zy:V (LV×LV))
 | frz (o:Obj) (Zy:V (LV×LV))
 | fin (o:Obj) (vs:V LV)
 | inst (c d:sE) (fs:V LV)
variable {o o' ob:LO} {l1 l2 pre:V (sE×LO)}
noncomputable abbrev LH:=sE->sF LO
variable {KB:bn->LH->Prop} {s E ZK ZJ:LH} {K KE:LV->LH->Prop}
noncomputable abbrev uZ:=V (sF LV)
variable {ρ ρ0 io:uZ}
noncomputable instance:Cm LV:=λø ø=>nr _
theorem Fc(h:b≠v):Zt=b8 (b=v):=(sT h).symm
theorem yt(h:Nat.beq b.ctorIdx v.ctorIdx=Zt):Zt=b8 (b=v):=Fc λe=>by subst e;exact tf ((Nat.beq_refl _).symm.trans h)
noncomputable abbrev Ec:=sE->V ap
mutual
noncomputable def tH(h:ds):LV->sR->Prop
 | .none,v=>v=.none
 | .bool b,v=>v=.bool b
 | .int i,v=>∃t,v=.int i t
 | .str x,v=>∃t,v=.str x t
 | .ref a,v=>v=.ref a
 | .tup vs,v=>∃a ws n,v=.ref a/\h.get? a=J ⟨.type "tuple",sD,.seq ws n,#[]⟩/\ws.size<=2 ^ 25/\sY h vs ws.toList
noncomputable def sY(h:ds):V LV->V sR->Prop
 | [],[]=>True
 | x::xs,v::vs=>tH h x v/\sY h xs vs
 | _,_=>uF
end
noncomputable def tK(h h':ds):Prop:=∀a d ws n sl,h.get? a=J ⟨.type "tuple",d,.seq ws n,sl⟩->h'.get? a=J ⟨.type "tuple",d,.seq ws n,sl⟩
theorem tK.trans(x:tK h h')(y:tK h' ó):tK h ó:=λø ø ø ø ø e=>y _ _ _ _ _ (x _ _ _ _ _ e)
theorem tK.of_keeps(k:∀b o,h.get? b=J o->h'.get? b=J o):tK h h':=λø ø ø ø ø e=>k _ _ e
@[elab_as_elim] theorem eN{P:sR->Prop}(v:sR)(r:tH h (.int hs) v)(k:∀t,P (.int hs t)):P v:=Ea v r k
@[elab_as_elim] theorem fN{P:sR->Prop}(v:sR)(r:tH h (.str nl) v)(k:∀t,P (.str nl t)):P v:=Ea v r k
@[elab_as_elim] theorem gp{P:sR->Prop}(v:sR)(r:tH h (.ref a) v)(k:P (.ref a)):P v:=D (show v=.ref a from r) k
@[elab_as_elim] theorem fM{P:sR->Prop}(v:sR)(r:tH h (.tup vs) v)(k:∀a ws n,h.get? a=J ⟨.type "tuple",sD,.seq ws n,#[]⟩->ws.size<=2 ^ 25->sY h vs ws.toList->P (.ref a)):P v:=
 t9 r λa ws n e g z q=>D e (k a ws n g z q)
theorem LV.ind{P:LV->Prop}(n:P .none)(b:∀b,P (LV.bool b))(i:∀i,P (LV.int i))(s:∀s,P (LV.str s))(t:∀vs,(∀x∈vs,P x)->P (LV.tup vs))(r:∀a,P (LV.ref a)):∀x,P x:=
 LV.rec (motive_1:=P) (motive_2:=λvs=>∀x∈vs,P x) n b i s t r (λø=>uG) λø ø h g x hx=>(gX.mp hx).elim (λe=>e▸h) (g x)
theorem sY.ind{P:V LV->V sR->Prop}(n:P [] [])(c:∀x fs v vs,tH h x v->sY h fs vs->P fs vs->P (x::fs) (v::vs)):∀{vs:V sR},sY h fs vs->P fs vs:=by
 induction fs with
 | nil=>intro vs r;cases vs with | nil=>exact n | cons=>exact r.elim
 | cons x fs ih=>intro vs r;cases vs with | nil=>exact r.elim | cons v vs=>exact c x fs v vs r.1 r.2 (ih r.2)
theorem sY.imp:∀{vs:V sR},sY h fs vs->(∀x∈fs,∀v,tH h x v->tH h' x v)->sY h' fs vs:=by
 induction fs with
 | nil=>intro vs r _;cases vs with | nil=>exact trivial | cons=>exact r.elim
 | cons x fs ih=>intro vs r k;cases vs with | nil=>exact r.elim | cons v vs=>exact⟨k x gI v r.1,ih r.2 λy hy=>k y (gH _ hy)⟩
theorem tH.mono(k:tK h h'):∀{v:sR},tH h b v->tH h' b v:=
 LV.ind (P:=λb=>∀{v:sR},tH h b v->tH h' b v) id (λø=>id) (λø=>id) (λø=>id) (λø ih ø r=>t9 r λa ws n e g z r=>uQ a ws n e (k _ _ _ _ _ g) z (r.imp λb hx ø=>ih b hx)) (λø=>id) b
theorem sY.mono(k:tK h h')(r:sY h fs cN):sY h' fs cN:=r.imp λø ø ø=>tH.mono k
theorem sY.u8(r:sY h fs cN):R fs=R cN:=sY.ind (P:=λfs cN=>R fs=R cN) H (λø ø ø ø ø ø ih=>sJ lN ih) r
theorem sY.get(r:sY h fs cN):fs[i]?=J b->∃v,cN[i]?=J v/\tH h b v:=
 sY.ind (P:=λfs cN=>∀i,fs[i]?=J b->∃v,cN[i]?=J v/\tH h b v) (λø=>z9) (λø ø v ø a ø ih i e=>by
  cases i with
  | zero=>exact ti v H (gv e▸a)
  | succ i=>exact ih i e) r i
theorem sY.append(r1:sY h fs cN)(r2:sY h ys dj):sY h (fs++ys) (cN++dj):=
 sY.ind (P:=λfs cN=>sY h (fs++ys) (cN++dj)) r2 (λø ø ø ø a ø ih=>⟨a,ih⟩) r1
theorem sY.one(r:tH h b vv):sY h [b] [vv]:=⟨r,trivial⟩
theorem sY.take{h:ds}(n:M){xs:V LV}{vs:V sR}(r:sY h xs vs):sY h (xs.take n) (vs.take n):=
 sY.ind (P:=λxs vs=>∀n,sY h (xs.take n) (vs.take n)) (λn=>by cases n<;>exact trivial) (λø ø ø ø a ø ih n=>by
  cases n with
  | zero=>exact trivial
  | succ n=>exact⟨a,ih n⟩) r n
theorem sY.drop{h:ds}(n:M){xs:V LV}{vs:V sR}(r:sY h xs vs):sY h (xs.drop n) (vs.drop n):=
 sY.ind (P:=λxs vs=>∀n,sY h (xs.drop n) (vs.drop n)) (λn=>by cases n<;>exact trivial) (λø ø ø ø a b ih n=>by
  cases n with
  | zero=>exact⟨a,b⟩
  | succ n=>exact ih n) r n
theorem sY.set{h:ds}(n:M){xs:V LV}{vs:V sR}{x:LV}{v:sR}(r:sY h xs vs)(rx:tH h x v):sY h (xs.set n x) (vs.set n v):=
 sY.ind (P:=λxs vs=>∀n,sY h (xs.set n x) (vs.set n v)) (λø=>trivial) (λø ø ø ø a b ih n=>by
  cases n with
  | zero=>exact⟨rx,b⟩
  | succ n=>exact⟨a,ih n⟩) r n
theorem sY.reverse(r:sY h fs cN):sY h fs.reverse cN.reverse:=
 sY.ind (P:=λfs cN=>sY h fs.reverse cN.reverse) trivial (λø ø ø ø a ø ih=>D List.reverse_cons (D List.reverse_cons (ih.append (.one a)))) r
theorem sY.replicate(r:tH h b vv)(n:M):sY h (hU n b) (hU n vv):=
 Nat.rec trivial (λø ih=>⟨r,ih⟩) n
theorem fk:sY h [] cN<->cN=[]:=⟨λr=>by cases cN with | nil=>rfl | cons=>exact r.elim,λe=>e▸trivial⟩
noncomputable abbrev LA:=al ⊕ ap
noncomputable def LA.lv:LA->LV
 | .inl i=>LV.int i
 | .inr s=>LV.str s
noncomputable def LA.isA:LA->sR->bn
 | .inl i,v=>jF i v
 | .inr s,v=>jZ s v
noncomputable def fH(w:World):LA->al
 | .inl i=>hashInt i
 | .inr s=>hashStr w s
theorem eW{k:LA}(h:k.isA vv=pH):(∃i t,k=.inl i/\vv=.int i t)\/(∃x t,k=.inr x/\vv=.str x t):=by
 cases k
 .exact Ea vv (kW h) λt=>.inl (w1 _ _ H rfl)
 .exact Ea vv (mA h) λt=>.inr (w1 _ _ H rfl)
theorem fR{k:LA}{Q:LA->sR->Prop}(h:k.isA vv=pH)(hi:∀i t,Q (.inl i) (.int i t))(hs:∀x t,Q (.inr x) (.str x t)):Q k vv:=by
 cases k with
 | inl i=>exact Ea vv (kW h) (hi i)
 | inr i=>exact Ea vv (mA h) (hs i)
theorem f3{k:LA}{t:Tok}(h:k.isA (.int hs t)=pH):k=.inl hs:=by
 cases k with
 | inl j=>exact xE (kW (show jF j (.int hs t)=pH from h)) λt e=>sJ Sum.inl (n9 e).1.symm
 | inr j=>exact xE (mA (show jZ j (.int hs t)=pH from h)) λt e=>(sN lO e).elim
theorem fG{k:LA}{t:Tok}(h:k.isA (.str nl t)=pH):k=.inr nl:=by
 cases k with
 | inl j=>exact xE (kW (show jF j (.str nl t)=pH from h)) λt e=>(sN lO e).elim
 | inr j=>exact xE (mA (show jZ j (.str nl t)=pH from h)) λt e=>sJ Sum.inr (og e).1.symm
theorem Sb(i j:al):(i==j)=b8 ((Sum.inl i:LA)=Sum.inl j):=by
 refine AU jG ?_;simp
noncomputable def tZ(prog:GY)(w:World):KeyKind prog w LA where
 is:=LA.isA
 hash:=fH w
 inj:=λv a b ha=>fR (Q:=λa v=>b.isA v=pH->a=b) ha (λø ø h=>(f3 h).symm) λø ø h=>(fG h).symm
 byValue:=λk v h=>fR (Q:=λk v=>carriedByValue v=pH) h (λø ø=>rfl) λø ø=>rfl
 pyHash:=λ{A am s k v Q} hv h=>fR (Q:=λk v=>Q (fH w k) {s with toks:=s.toks+1}->td (Ha prog w) A (PySem.pyHash v) Q am s) hv (λø ø h=>wpAny_pyHash_int h) (λø ø h=>wpAny_pyHash_str h) h
 eqBool:=λ{_ _ _ a b _ _ _} hu hv h=>by
  rcases eW hu with ⟨i,t,rfl,rfl⟩ | ⟨i,t,rfl,rfl⟩<;>rcases eW hv with ⟨j,u,rfl,rfl⟩ | ⟨j,u,rfl,rfl⟩
  .exact wpAny_eqBool_int (by refine D (Sb i j) ?_;exact h)
  .exact SeqAt.EqAt.int_str _ _ _ _ _ _ _ _ (by simpa using h)
  .exact SeqAt.EqAt.str_int _ _ _ _ _ _ _ _ (by simpa using h)
  .exact wpAny_eqBool_str (by simpa [Sum.inr.injEq] using h)
 «strs»:=λk x t v h=>by
  have e:=fG h;subst e;cases v<;>rfl
noncomputable def vM(h:ds):V ap->V LV->V uo->Prop
 | _,[],[]=>True
 | n::ns,x::xs,e::es=>(∃t,e.key=.str n t)/\tH h x e.val/\vM h ns xs es
 | _,_,_=>uF
noncomputable def yg(h:ds):V (LV×LV)->V (al×sR)->Prop
 | [],[]=>True
 | kv::r,x::q=>kv.1=LV.int x.1/\tH h kv.2 x.2/\yg h r q
 | _,_=>uF
noncomputable def yh(h:ds):V (LV×LV)->V (V LA×sE×sR)->Prop
 | [],[]=>True
 | kv::r,x::q=>kv.1=.tup (x.1.map LA.lv)/\(tH h (.tup (x.1.map LA.lv)) (.ref x.2.1)/\tH h kv.2 x.2.2)/\yh h r q
 | _,_=>uF
section
variable (prog:GY) (w:World) (at_:Ec)
noncomputable def vY(h:ds)(a:sE)(Zy:V (LV×LV)):Prop:=(∃ks,h.DictOf (vt prog w) a ks/\yg h Zy ks)\/(∃xs,h.DictOfH (t5 (tZ prog w)) a xs/\yh h Zy xs)
noncomputable def Hb(h:ds)(a:sE):LO->Prop
 | LO.list vs=>∃ws n,h.get? a=J ⟨.type "list",sD,.seq ws n,#[]⟩/\ws.size<=2 ^ 25/\sY h vs ws.toList
 | LO.dict Zy=>vY prog w h a Zy
 | LO.frz o Zy=>h.get? a=J o/\vY prog w h a Zy
 | LO.fin o vs=>h.get? a=J o/\∃ws n,o=⟨.type "list",sD,.seq ws n,#[]⟩/\ws.size<=2 ^ 25/\sY h vs ws.toList
 | LO.inst c d fs=>h.get? a=J (za c d)/\∃es n,h.get? d=J (dictOf es n)/\vM h (at_ c) fs es
structure WL (st:LH) (h:ds):Prop where
 obj:∀a o,st a=J o->Hb prog w at_ h a o
 inj:∀a a' c d fs c' Ì,st a=J (LO.inst c d fs)->st a'=J (LO.inst c' d Ì)->a=a'
 apart:∀a c d fs,st a=J (LO.inst c d fs)->st d=sD
end
noncomputable def tT(st:LH)(b:sE):Prop:=(∃o,st b=J o)\/∃a c fs,st a=J (LO.inst c b fs)
structure vV (F:sE->Prop) (st:LH) (h:ds) (E:LH) (h':ds):Prop where
 keep:∀b o,h.get? b=J o->¬ tT st b->¬ F b->h'.get? b=J o
 new:∀b,tT E b->tT st b\/h.get? b=sD
 live:∀b,h'.get? b=sD->h.get? b=sD
theorem vV.refl(F:sE->Prop)(st:LH)(h:ds):vV F st h st h:=⟨λø ø e ø ø=>e,λø o=>.inl o,λø e=>e⟩
theorem vV.trans(x:vV Fa s h E h')(y:vV Fa E h' ZJ h3):vV Fa s h ZJ h3 where
 keep b o e n f:=y.keep b o (x.keep b o e n f) (λq=>by
  rcases x.new b q with q | q
  .exact n q
  .exact uH (q.symm.trans e)) f
 new b q:=by
  rcases y.new b q with q | q
  .exact x.new b q
  .exact .inr (x.live b q)
 live b q:=x.live b (y.live b q)
theorem vV.mono(x:vV Fa s h E h')(f:∀b,Fa b->dr b):vV dr s h E h':=
 ⟨λb o e n g=>x.keep b o e n λq=>g (f b q),x.new,x.live⟩
theorem vV.of_keeps(k:∀b o,h.get? b=J o->h'.get? b=J o):vV Fa s h s h':=
 ⟨λb o e ø ø=>k b o e,λø o=>.inl o,λb e=>by
  cases q:h.get? b with
  | none=>rfl
  | some o=>rw[k b o q]at e;exact E9 e⟩
theorem vY.cls(r:vY prog e7 h a Zy):∃ob,h.get? a=J ob/\ob.cls=.type "dict":=
 r.elim (λq=>s9 q λø d ø=>vL d λob ø ø g q=>ti ob g q.1.1) λq=>s9 q λø d ø=>vL d λob ø ø g q=>ti ob g q.1.1
theorem Js:nv "dict"≠.type "tuple":=by simp
theorem Jt:nv "list"≠.type "tuple":=by simp
theorem Hb.kind{at_:Ec}(r:Hb prog e7 at_ h a o):∃ob,h.get? a=J ob/\ob.cls≠.type "tuple":=by
 cases o with
 | list vs=>exact vX r λws n g ø=>ti _ g Jt
 | dict Zy=>exact s9 (vY.cls r) λob g e=>ti ob g (D e Js)
 | frz o Zy=>exact s9 (vY.cls r.2) λob g e=>ti ob g (D e Js)
 | fin o vs=>exact vX r.2 λws n e ø=>ti o r.1 (D (sJ Obj.cls e) Jt)
 | inst c d fs=>exact ti _ r.1 (by simp)
theorem WL.kind{at_:Ec}(bi:WL prog e7 at_ s h)(o:tT s d):∃ob,h.get? d=J ob/\ob.cls≠.type "tuple":=
 o.elim (λq=>xE q λø e=>(bi.obj _ _ e).kind) λq=>q.elim λa q=>KC q λc fs e=>vX (bi.obj _ _ e).2 λes n g ø=>ti _ g Js
theorem vV.tup{at_:Ec}(x:vV Fa s h E h')(bi:WL prog e7 at_ s h)
  (f:∀b,Fa b->∀o,h.get? b=J o->∀ws n,o.data≠.seq ws n):tK h h':=λa d ws n sl e=>
 x.keep a _ e (λq=>by refine s9 (bi.kind q) λob g ne=>?_;obtain rfl:=gv (e.symm.trans g);exact ne H) (λq=>f a q _ e _ _ H)
open _root_.Mine.LV renaming bool->ii,int->f0,ref->Y,str->g3,tup->f2
open _root_.Mine.LO renaming dict->f8,fin->SZ,frz->Da,inst->f4,list->f1
structure Cx where
 prog:GY
 aH:World
 at_:Ec
 aI:Frag
 h0:ds
 N_:OsState
 bY:ap->sF sR
 wf:aI.In h0
 lim:h0.NoLimit
 x_:h0.Ns tO bY
 i_:∀x:ap,x≠"__name__"->bY x=Bu x
 b9:ap->sF sR
 z_:h0.Ns sV b9
variable {C:Cx}
noncomputable def Cx.Off(C:Cx)(b:sE):Prop:=C.h0.get? b=sD/\(b==zj)=Zt
noncomputable abbrev Cx.aw(C:Cx):Model:=Ha C.prog C.aH
noncomputable abbrev wV:sR->s8->Prop:=λø ø=>uF
noncomputable abbrev F0:sE->Prop:=λø=>uF
noncomputable abbrev tV(C:Cx)(st:LH)(s:s8):Prop:=WL C.prog C.aH C.at_ st s.heap/\(∀b o,C.h0.get? b=J o->s.heap.get? b=J o)/\(∀b,tT st b->C.Off b)/\s.gens = #[]/\s.os=C.N_
def tV.rep(h:tV C E s'):=h.1
def tV.base(h:tV C E s'):=h.2.1
def tV.own(h:tV C E s'):=h.2.2.1
def tV.gens(h:tV C E s'):=h.2.2.2.1
def tV.os(h:tV C E s'):=h.2.2.2.2
theorem tV.toks(I:tV C E s')(t:M):tV C E {s' with toks:=t}:=⟨I.rep,I.base,I.own,I.gens,I.os⟩
theorem tV.wf(I:tV C E s'):C.aI.In s'.heap:=C.wf.keeps I.base
theorem tV.lim(I:tV C E s'):s'.heap.NoLimit:=C.lim.keeps I.base
noncomputable abbrev Rm(A:vy)(n:M):Prop:=A.handled=sD/\A.depth+3*n<=990/\A.units+10*n<=9000
def Rm.hd{n:M}(h:Rm A n):=h.1
def Rm.bC(h:Rm A i):=h.2.1
def Rm.un(h:Rm A i):=h.2.2
theorem Rm.le(r:Rm A i)(h:m<=i):Rm A m:=⟨r.hd,by exact uy [3,990] 0x4250088009021300440040628c03 H h r.bC,by exact uy [10,9000] 0x425008800902130044004062a803 H h r.un⟩
theorem Rm.room(r:Rm A i):A.depth<recursionLimit:=by unfold recursionLimit;exact tD [3,990,1000] 0x824094212804400402 H r.bC
theorem Rm.line(r:Rm A i):A.units+64<Gd:=by unfold Gd;exact tD [10,9000,64,9900] 0x6110480094212804400402 H r.un
noncomputable def tI(C:Cx)(st:LH)(s:s8)(K:LV->LH->Prop)(v:sR)(s':s8):Prop:=
 ∃lv E,tH s'.heap lv v/\tV C E s'/\vV F0 st s.heap E s'.heap/\K lv E
theorem tI.mk(r:tH s'.heap b vv)(I:tV C E s')(x:vV F0 ZJ s3.heap E s'.heap)(k:K b E):tI C ZJ s3 K vv s':=(uY b E r I x k)
theorem tI.from(x:vV F0 ZJ s3.heap ZK s1.heap)(p:tI C ZK s1 K vv s'):tI C ZJ s3 K vv s':=
 vS p λlv E r I y k=>⟨lv,E,r,I,x.trans y,k⟩
theorem tI.same{lv:LV}{t:M}(I:tV C E s')(r:tH s'.heap lv vv)(k:K lv E):tI C E s' K vv {s' with toks:=t}:=(uY lv E r (I.toks t) (.refl ..) k)
theorem vV.wn(x:vV F0 s h E h')(bi:WL C.prog C.aH C.at_ s h):tK h h':=x.tup bi λø f=>f.elim
theorem tI.un(p:tI C ZJ s3 K vv s')(g:∀lv E,tH s'.heap lv vv->tV C E s'->vV F0 ZJ s3.heap E s'.heap->K lv E->Q):Q:=vS p λa b c d e f=>g a b c d e f
theorem vf(h:td C.aw A ej (tI C ZJ s3 K) wV s3)(g:∀v s' lv E,tH s'.heap lv v->tV C E s'->vV F0 ZJ s3.heap E s'.heap->K lv E->am v s'):td C.aw A ej am wV s3:=
 uB h (λv s' p=>p.un (g v s')) λø ø e=>e
theorem AW(h:td C.aw A ej (tI C ZK s1 K) wV s1)(x:vV F0 E s'.heap ZK s1.heap):td C.aw A ej (tI C E s' K) wV s1:=uB h (λø ø p=>p.from x) λø ø e=>e
theorem Ju{β:Type}{f:sR->Sem β}{Q:β->s8->Prop}(h:td C.aw A ej (tI C ZJ s3 KE) wV s3)
  (g:∀lv E v s',tH s'.heap lv v->tV C E s'->vV F0 ZJ s3.heap E s'.heap->KE lv E->td C.aw A (f v) Q wV s'):td C.aw A (ej >>=f) Q wV s3:=
 sG (vf h λv s' lv E=>g lv E v s')
theorem vM.ind{P:V ap->V LV->V uo->Prop}(n:∀ns,P ns [] [])(c:∀n ns x vs e es,(∃t,e.key=.str n t)->tH h x e.val->vM h ns vs es->P ns vs es->P (n::ns) (x::vs) (e::es)) :
  ∀{ns:V ap} {es:V uo},vM h ns vs es->P ns vs es:=by
 induction vs with
 | nil=>intro ns es r;cases es with | nil=>exact n ns | cons=>cases ns<;>exact r.elim
 | cons x vs ih=>
  intro ns es r;cases es with
  | nil=>cases ns<;>exact r.elim
  | cons e es=>cases ns with | nil=>exact r.elim | cons n ns=>exact c n ns x vs e es r.1 r.2.1 r.2.2 (ih r.2.2)
theorem vM.nil(ns:V ap):vM h ns [] []:=by cases ns<;>exact trivial
theorem xB(T:tK h h'){es:V uo}(r:vM h ZD fs es):vM h' ZD fs es:=
 vM.ind (P:=vM h') vM.nil (λø ø ø ø ø ø a b ø ih=>⟨a,b.mono T,ih⟩) r
theorem yg.ind{P:V (LV×LV)->V (al×sR)->Prop}(n:P [] [])(c:∀kv r x q,kv.1=f0 x.1->tH h kv.2 x.2->P r q->P (kv::r) (x::q)):∀{ks:V (al×sR)},yg h Zy ks->P Zy ks:=by
 induction Zy with
 | nil=>intro ks r;cases ks with | nil=>exact n | cons=>exact r.elim
 | cons x Zy ih=>intro ks r;cases ks with | nil=>exact r.elim | cons k ks=>exact c x Zy k ks r.1 r.2.1 (ih r.2.2)
theorem yh.ind{P:V (LV×LV)->V (V LA×sE×sR)->Prop}(n:P [] [])(c:∀kv r x q,kv.1=.tup (x.1.map LA.lv)->tH h (.tup (x.1.map LA.lv)) (.ref x.2.1)->tH h kv.2 x.2.2->P r q->P (kv::r) (x::q)):∀{ks:V (V LA×sE×sR)},yh h Zy ks->P Zy ks:=by
 induction Zy with
 | nil=>intro ks r;cases ks with | nil=>exact n | cons=>exact r.elim
 | cons x Zy ih=>intro ks r;cases ks with | nil=>exact r.elim | cons k ks=>exact c x Zy k ks r.1 r.2.1.1 r.2.1.2 (ih r.2.2)
theorem Hc(T:tK h h'){ks:V (al×sR)}(r:yg h Zy ks):yg h' Zy ks:=
 yg.ind (P:=yg h') trivial (λø ø ø ø a b ih=>⟨a,b.mono T,ih⟩) r
theorem DB(T:tK h h'){ks:V (V LA×sE×sR)}(r:yh h Zy ks):yh h' Zy ks:=
 yh.ind (P:=yh h') trivial (λø ø ø ø a b b' ih=>⟨a,⟨b.mono T,b'.mono T⟩,ih⟩) r
theorem Gu(T:tK h h'){ks:V LA}(x:(t5 (tZ prog e7)).is h ks a):(t5 (tZ prog e7)).is h' ks a:=by
 obtain ⟨⟨oc,od,oda,Ç⟩,items,n,ho,hc,hd,hi⟩:=x;dsimp only at hc hd;subst hc hd;exact(uQ _ items n (T _ _ _ _ _ ho) H rfl hi)
theorem vY.at(T:tK h h')(k:∀o,h.get? a=J o->h'.get? a=J o)(r:vY prog e7 h a Zy):vY prog e7 h' a Zy:=
 r.imp (λq=>s9 q λks d r=>⟨ks,vL d λo es ep g q=>⟨o,es,ep,k _ g,q⟩,Hc T r⟩) λq=>s9 q λxs d r=>⟨xs,vL d λo es ep g q=>⟨o,es,ep,k _ g,q.1,q.2.1,q.2.2.1,λx hx=>Gu T (q.2.2.2.1 x hx),q.2.2.2.2⟩,DB T r⟩
noncomputable def FA(env:dL)(b:sE):Prop:=b=env.locals\/∃x,env.cells.lookup x=J b
noncomputable def Vb(env:dL)(x:ap):Prop:=env.kindOf x=J .local\/env.kindOf x=J .cell\/env.kindOf x=J .free
noncomputable abbrev tG(C:Cx)(env:dL)(nm:V (sF ap))(ρ:uZ)(st:LH)(h:ds):Prop:=env.scope.kind=.function/\env.globals=sV/\env.builtins=tO/\(∀(i:M) (x:ap),nm[i]?=J (J x)->Vb env x/\(x==("__debug__" : ap))=Zt/\(x==("__classdict__" : ap))=Zt)/\(∃m,h.Ns env.locals m/\∀(i:M) (x:ap) (lv:LV),nm[i]?=J (J x)->ρ[i]?=J (J lv)->env.kindOf x=J .local->∃v,m x=J v/\tH h lv v)/\(∀(i:M) (x:ap) (lv:LV),nm[i]?=J (J x)->ρ[i]?=J (J lv)->(env.kindOf x=J .cell\/env.kindOf x=J .free)->∃c v,env.cells.lookup x=J c/\h.IsCell c (J v)/\tH h lv v)/\(∀(i:M) (x:ap),nm[i]?=J (J x)->env.kindOf x=J .cell->∃c v,env.cells.lookup x=J c/\h.IsCell c v)/\(∀x y c,env.cells.lookup x=J c->env.cells.lookup y=J c->x=y)/\(∀x c,env.cells.lookup x=J c->c≠env.locals)/\(∀b,FA env b->∃o,h.get? b=J o/\∀ws n,o.data≠.seq ws n)/\(∀b,FA env b->¬ tT st b)/\(∀b,FA env b->C.Off b)/\∀(i j:M) (x:ap),nm[i]?=J (J x)->nm[j]?=J (J x)->i=j
def tG.hk(h:tG C env Zw ρ s h):=h.1
def tG.glob(h:tG C env Zw ρ s h):=h.2.1
def tG.blt(h:tG C env Zw ρ s h):=h.2.2.1
def tG.ω(h:tG C env Zw ρ s h):=h.2.2.2.1
def tG.loc(h:tG C env Zw ρ s h):=h.2.2.2.2.1
def tG.ψ(h:tG C env Zw ρ s h):=h.2.2.2.2.2.1
def tG.φ(h:tG C env Zw ρ s h):=h.2.2.2.2.2.2.1
def tG.d'(h:tG C env Zw ρ s h):=h.2.2.2.2.2.2.2.1
def tG.apart(h:tG C env Zw ρ s h):=h.2.2.2.2.2.2.2.2.1
def tG.ex(h:tG C env Zw ρ s h):=h.2.2.2.2.2.2.2.2.2.1
def tG.free(h:tG C env Zw ρ s h):=h.2.2.2.2.2.2.2.2.2.2.1
def tG.off(h:tG C env Zw ρ s h):=h.2.2.2.2.2.2.2.2.2.2.2.1
def tG.uniq(h:tG C env Zw ρ s h):=h.2.2.2.2.2.2.2.2.2.2.2.2
theorem wW{v:sF sR}(x:h.IsCell c v)(k:∀o,h.get? c=J o->h'.get? c=J o):h'.IsCell c v:=s9 x λo e d=>ti o (k o e) d
theorem dQ{m:ap->sF sR}(x:h.Ns a m)(k:∀o,h.get? a=J o->h'.get? a=J o):h'.Ns a m:=vL x λo es ep e r=>NA o es ep (k o e) r
theorem tG.ext(F:tG C env Zw ρ ZJ s3.heap)(I:tV C ZJ s3)(x:vV F0 ZJ s3.heap E s'.heap):tG C env Zw ρ E s'.heap:=by
 have T:=x.wn I.rep;have k:∀b,FA env b->∀o,s3.heap.get? b=J o->s'.heap.get? b=J o:=λb f o e=>x.keep b o e (F.free b f) id
 refine⟨F.hk,F.glob,F.blt,F.ω,?_,?_,?_,F.d',F.apart,?_,?_,F.off,F.uniq⟩
 .exact s9 F.loc λm n r=>⟨m,dQ n (k _ (.inl H)),λi x lv a b c=>s9 (r i x lv a b c) λv e g=>⟨v,e,g.mono T⟩⟩
 .intro i x lv a b c;exact t8 (F.ψ i x lv a b c) λd v e g r=>(tU d v e (wW g (k _ (.inr ⟨x,e⟩))) (r.mono T))
 .intro i x a b;exact vX (F.φ i x a b) λc v e g=>(w1 c v e (wW g (k _ (.inr ⟨x,e⟩))))
 .intro b f;exact s9 (F.ex b f) λo e n=>(ti o (k b f o e) n)
 .intro b f q
  rcases x.new b q with q | q
  .exact F.free b f q
  .exact s9 (F.ex b f) λo e ø=>uH (q.symm.trans e)
theorem tG.load(F:tG C env Zw ρ E s'.heap)(hn:Zw[i]?=J (J nl))(hv:ρ[i]?=J (J b))
  (h:∀v,tH s'.heap b v->Q₁ v s'):td C.aw A (loadName env nl) Q₁ am s':=by
 refine zY (F.ω i nl hn) λok d1 d2=>?_
 rcases ok with ok | ok | ok
 .exact s9 F.loc λm n r=>s9 (r i nl b hn hv ok) λv e g=>wpAny_loadName_local F.hk ok n e (h v g)
 .exact t8 (F.ψ i nl b hn hv (.inl ok)) λc v e g r=>wpAny_loadName_cell F.hk ok e g (h v r)
 .exact t8 (F.ψ i nl b hn hv (.inr ok)) λc v e g r=>wpAny_loadName_free F.hk ok e g (h v r) d2
theorem tV.i?{t:M}(I:tV C E s')(F:tG C env Zw ρ E s'.heap)(f:FA env l)(hs:ju l s'.heap h') :
  tV C E {s' with heap:=h',toks:=t}:=by
 have T:tK s'.heap h':=λa d ws n sl e=>(hs.2 a λq=>by
  refine s9 (F.ex l f) λo g ne=>?_;rw[q,g]at e;obtain rfl:=gv e;exact ne _ _ H).trans e
 have k:∀a,tT E a->h'.get? a=s'.heap.get? a:=λa o=>hs.2 a λq=>F.free l f (q▸o)
 refine⟨⟨λa o e=>?_,I.rep.inj,I.rep.apart⟩,λa o e=>?_,I.own,I.gens,I.os⟩
 .have r:=I.rep.obj a o e;have ka:=k a (.inl ⟨o,e⟩);cases o with
  | list vs=>exact t8 r λws n g z r=>(tU ws n (ka.trans g) z (r.mono T))
  | dict Zy=>exact vY.at T (λø g=>ka.trans g) r
  | frz o Zy=>exact⟨ka.trans r.1,vY.at T (λø g=>ka.trans g) r.2⟩
  | fin o vs=>(refine BV r λg ws n e r9=>xA r9 λz r=>?_);exact(DA (ka.trans g) ws n e z (r.mono T))
  | inst c d fs=>
   exact BV r λg es n q r=>(G9 (ka.trans g) es n ((k d (.inr (Dz a c fs e))).trans q) (xB T r))
 .exact(hs.2 a λq=>by have:=(F.off l f).1;rw[<- q,e]at this;exact E9 this).trans (I.base a o e)
noncomputable def ur(st:LH)(a:sE)(o:LO):LH:=λb=>if b=a then J o else st b
@[simp] theorem te(st:LH)(a:sE)(o:LO):ur st a o a=J o:=sI H
theorem tR(h:g≠a):ur s a o g=s g:=sH h
noncomputable def Co:LO->Prop | f4 ..=>True | _=>uF
theorem tT.upd(hn:¬ Co o)(hold:∀c d fs,s a≠J (f4 c d fs))(h:tT (ur s a o) g):g=a\/tT s g:=by
 rcases h with ⟨o',e⟩ | ⟨x,c,fs,e⟩
 .by_cases q:g=a
  .exact .inl q
  .rw[tR q]at e;exact .inr (.inl ⟨_,e⟩)
 .by_cases q:x=a
  .obtain rfl:=q.symm;rw[te]at e;obtain rfl:=gv e;exact(hn trivial).elim
  .rw[tR q]at e;exact .inr (.inr (Dz _ _ _ e))
theorem tV.lt(I:tV C E s')(o:tT E a):a<s'.heap.objs.size:=s9 (I.rep.kind o) λø g ø=>i7 g
theorem tV.fresh(I:tV C E s'):¬ tT E s'.heap.objs.size:=λo=>iV _ (I.lt o)
theorem tV.ZX(I:tV C E s'):E s'.heap.objs.size=sD:=by
 cases q:E s'.heap.objs.size with
 | none=>rfl
 | some o=>exact(I.fresh (.inl ⟨o,q⟩)).elim
theorem tV.k!(I:tV C E s')(e:C.h0.get? a=J od):a<s'.heap.objs.size:=i7 (I.base a od e)
theorem tV.off(I:tV C E s')(hb:s'.heap.objs.size<=a):C.Off a:=by
 refine⟨?_,beq_eq_false_iff_ne.mpr λe=>?_⟩
 .cases q:C.h0.get? a with
  | none=>rfl
  | some o=>exact(iV _ (ij (I.k! q) hb)).elim
 .refine vL C.z_ λo ø ø g ø=>?_
  have:sV<a:=ij (I.k! g) hb;rw[e]at this;exact absurd this (by decide)
theorem AY(I:tV C E s'):C.Off s'.heap.objs.size:=I.off (gC _)
theorem AZ(h:ds):h.get? h.objs.size=sD:=by
 cases q:h.get? h.objs.size with
 | none=>rfl
 | some o=>exact(iV _ (i7 q)).elim
theorem Hb.mono{h h':ds}(k:∀b o,h.get? b=J o->h'.get? b=J o){a:sE}{o:LO}(r:Hb C.prog C.aH C.at_ h a o):Hb C.prog C.aH C.at_ h' a o:=by
 have T:=tK.of_keeps k;cases o with
 | list vs=>exact t8 r λws n g z r=>(tU ws n (k _ _ g) z (r.mono T))
 | dict Zy=>exact vY.at T (k a) r
 | frz o Zy=>exact⟨k _ _ r.1,vY.at T (k a) r.2⟩
 | fin o vs=>(refine BV r λg ws n e r9=>xA r9 λz r=>?_);exact(DA (k _ _ g) ws n e z (r.mono T))
 | inst c d fs=>exact BV r λg es n q r=>(G9 (k _ _ g) es n (k _ _ q) (xB T r))
theorem tV.grow{s:s8}{t:M}(I:tV C E s)(k:∀b o,s.heap.get? b=J o->h'.get? b=J o):tV C E {s with heap:=h',toks:=t}:=
 ⟨⟨λa o e=>(I.rep.obj a o e).mono k,I.rep.inj,I.rep.apart⟩,λb o e=>k b o (I.base b o e),I.own,I.gens,I.os⟩
theorem tV.Α(I:tV C E s3)(k:∀b o,s3.heap.get? b=J o->s'.heap.get? b=J o)(hg:s'.gens=s3.gens)(ho:s'.os=s3.os):tV C E s':=
 ⟨⟨λa o e=>(I.rep.obj a o e).mono k,I.rep.inj,I.rep.apart⟩,λb o e=>k b o (I.base b o e),I.own,hg.trans I.gens,ho.trans I.os⟩
theorem uC(h:ds)(o:Obj):∀b x,h.get? b=J x->(h.push o).get? b=J x:=λø ø e=>jH o e
theorem tV.alloc{t:M}(I:tV C E s')(k:∀b x,s'.heap.get? b=J x->h'.get? b=J x)(hc:s'.heap.get? c=sD)(hb:C.Off c)(Z':¬ Co o)
  (Pi:¬ tT E c) (r:Hb C.prog C.aH C.at_ h' c o):tV C (ur E c o) {s' with heap:=h',toks:=t}/\vV F0 E s'.heap (ur E c o) h':=by
 have hn:E c=sD:=by cases q:E c with | none=>rfl | some o=>exact(Pi (.inl ⟨o,q⟩)).elim
 refine⟨⟨⟨λa x e=>?_,λa a' cl d fs Ĭ Ì e e'=>?_,λa cl d fs e=>?_⟩,λb o e=>k b o (I.base b o e),λb q=>?_,I.gens,I.os⟩,λb o e ø ø=>k b o e,λb q=>?_,λb e=>?_⟩
 .by_cases q:a=c
  .obtain rfl:=q.symm;rw[te]at e;refine tj (gv e) ?_;exact r
  .rw[tR q]at e;exact(I.rep.obj a x e).mono k
 .have q:a≠c:=λq=>by obtain rfl:=q.symm;rw[te]at e;obtain rfl:=gv e;exact Z' trivial
  have q':a'≠c:=λq=>by obtain rfl:=q.symm;rw[te]at e';obtain rfl:=gv e';exact Z' trivial
  rw[tR q]at e;rw[tR q']at e';exact I.rep.inj _ _ _ _ _ _ _ e e'
 .have q:a≠c:=λq=>by obtain rfl:=q.symm;rw[te]at e;obtain rfl:=gv e;exact Z' trivial
  rw[tR q]at e;have q2:d≠c:=λq=>Pi (q▸.inr (Dz a cl fs e))
  exact D (tR q2) (I.rep.apart _ _ _ _ e)
 .rcases (λb q=>tT.upd Z' (λc d fs e=>uH (hn.symm.trans e)) q:∀b,tT (ur E c o) b->b=c\/tT E b) b q with rfl | q
  .exact hb
  .exact I.own b q
 .rcases (λb q=>tT.upd Z' (λc d fs e=>uH (hn.symm.trans e)) q:∀b,tT (ur E c o) b->b=c\/tT E b) b q with rfl | q
  .exact .inr hc
  .exact .inl q
 .cases q:s'.heap.get? b with
  | none=>rfl
  | some x=>rw[k b x q]at e;exact E9 e
theorem tI.newList{xs:V LV}{t:M}(I:tV C E s')(r:sY s'.heap xs ws.toList)(hz:ws.size<=2 ^ 25)(k:∀c,E c=sD->K (Y c) (ur E c (f1 xs))) :
  tI C E s' K (.ref s'.heap.objs.size) {s' with heap:=s'.heap.push {cls:=.type "list",data:=.seq ws},toks:=t}:=
 xA (I.alloc (o:=f1 xs) (t:=t) (c:=s'.heap.objs.size) (uC _ _) (AZ _) (AY I) (λh=>h) I.fresh (tU ws 0 (iW _ H) hz (r.mono (.of_keeps (uC _ _))))) λI' x=>
 (uY (Y _) _ H I' x (k _ I.ZX))
theorem tI.ç{s:s8}{xs:V LV}{t:M}(I:tV C E s)(r:sY s.heap xs ws.toList)(hz:ws.size<=2 ^ 25)(k:K (f2 xs) E) :
  tI C E s K (.ref s.heap.objs.size) {s with heap:=s.heap.push {cls:=.type "tuple",data:=.seq ws},toks:=t}:=
 (uY (f2 xs) E (uQ _ ws 0 H (iW _ H) hz (r.mono (.of_keeps (uC _ _)))) (I.grow (uC _ _)) (.of_keeps (uC _ _)) k)
theorem tI.newDict{t:M}(I:tV C E s')(k:∀c,E c=sD->K (Y c) (ur E c (f8 []))) :
  tI C E s' K (.ref s'.heap.objs.size) {s' with heap:=s'.heap.push {cls:=.type "dict",data:=.dict #[]},toks:=t}:=
 xA (I.alloc (o:=f8 []) (t:=t) (c:=s'.heap.objs.size) (uC _ _) (AZ _) (AY I) (λh=>h) I.fresh (.inl (ti ([]) (oh _) trivial))) λI' x=>
 (uY (Y _) _ H I' x (k _ I.ZX))
theorem tV.change{t:M}(I:tV C E s')(ho:E a=J o)(Z':¬ Co o)(ï:¬ Co o')(hs:ju a s'.heap h')(hl:∃ob,h'.get? a=J ob)
  (r:Hb C.prog C.aH C.at_ h' a o'):tV C (ur E a o') {s' with heap:=h',toks:=t}/\vV F0 E s'.heap (ur E a o') h':=by
 refine s9 (I.rep.kind (.inl ⟨o,ho⟩)) λoa ga na=>?_
 have T:tK s'.heap h':=λb d ws n sl e=>(hs.2 b λq=>by rw[q,ga]at e;obtain rfl:=gv e;exact na H).trans e
 have ni:∀c d fs,E a≠J (f4 c d fs):=λc d fs e=>by obtain rfl:=gv (ho.symm.trans e);exact Z' trivial
 have keep:∀b,b≠a->∀x,s'.heap.get? b=J x->h'.get? b=J x:=λb q x e=>(hs.2 b q).trans e
 refine⟨⟨⟨λb x e=>?_,λb b' cl d fs Ĭ Ì e e'=>?_,λb cl d fs e=>?_⟩,λb x e=>?_,λb q=>?_,I.gens,I.os⟩,λb x e n ø=>?_,λb q=>?_,λb e=>?_⟩
 .by_cases q:b=a
  .obtain rfl:=q.symm;rw[te]at e;refine tj (gv e) ?_;exact r
  .rw[tR q]at e;have r0:=I.rep.obj b x e;cases x with
   | list vs=>exact t8 r0 λws n g z r=>(tU ws n (keep _ q _ g) z (r.mono T))
   | dict Zy=>exact vY.at T (keep _ q) r0
   | frz o Zy=>exact⟨keep _ q _ r0.1,vY.at T (keep _ q) r0.2⟩
   | fin o vs=>(refine BV r0 λg ws n e r9=>xA r9 λz r=>?_);exact(DA (keep _ q _ g) ws n e z (r.mono T))
   | inst c d fs=>
    refine BV r0 λg es n g2 r=>?_
    have qd:d≠a:=λz=>by have:=I.rep.apart _ _ _ _ e;rw[z,ho]at this;exact E9 this
    exact(G9 (keep _ q _ g) es n (keep _ qd _ g2) (xB T r))
 .have q:b≠a:=λq=>by obtain rfl:=q.symm;rw[te]at e;obtain rfl:=gv e;exact ï trivial
  have q':b'≠a:=λq=>by obtain rfl:=q.symm;rw[te]at e';obtain rfl:=gv e';exact ï trivial
  rw[tR q]at e;rw[tR q']at e';exact I.rep.inj _ _ _ _ _ _ _ e e'
 .have q:b≠a:=λq=>by obtain rfl:=q.symm;rw[te]at e;obtain rfl:=gv e;exact ï trivial
  rw[tR q]at e;have z:=I.rep.apart _ _ _ _ e;have qd:d≠a:=λw=>by rw[w,ho]at z;exact E9 z
  exact D (tR qd) z
 .exact keep b (λq=>by have:=(I.own a (.inl ⟨o,ho⟩)).1;rw[<- q,e]at this;exact E9 this) x (I.base b x e)
 .rcases (λb q=>tT.upd ï ni q:∀b,tT (ur E a o') b->b=a\/tT E b) b q with rfl | q
  .exact I.own _ (.inl ⟨o,ho⟩)
  .exact I.own b q
 .exact keep b (λq=>n (q▸.inl ⟨o,ho⟩)) x e
 .rcases (λb q=>tT.upd ï ni q:∀b,tT (ur E a o') b->b=a\/tT E b) b q with rfl | q
  .exact .inl (.inl ⟨o,ho⟩)
  .exact .inl q
 .by_cases q:b=a
  .obtain rfl:=q;exact xE hl λob g=>E9 (g.symm.trans e)
  .exact(hs.2 b q).symm.trans e
noncomputable def FS(env:dL)(x:ap)(b:sE):Prop:=(env.kindOf x=J .local/\b=env.locals)\/(env.kindOf x=J .cell/\env.cells.lookup x=J b)
theorem FS.fa(h:FS env nl a):FA env a:=h.elim (λh=>.inl h.2) λh=>.inr ⟨nl,h.2⟩
theorem tG.store{lv:LV}{Q:Unit->s8->Prop}(F:tG C env Zw ρ E s3.heap)(I:tV C E s3)(hf:∀nl,env.kindOf nl≠J .free)(hn:Zw[i]?=J (J nl))(r:tH s3.heap lv vv)
  (h:∀s',tV C E s'->tG C env Zw (ρ.set i (J lv)) E s'.heap->vV (FS env nl) E s3.heap E s'.heap->Q () s'):td C.aw A (storeName env nl vv) Q wV s3:=by
 have ext:∀{b:sE} {h':ds},FS env nl b->ju b s3.heap h'->(∃o,h'.get? b=J o)->vV (FS env nl) E s3.heap E h':=λ{b h'} f hs hl=>by
  refine⟨λc o e ø nf=>(hs.2 c λq=>nf (q▸f)).trans e,λø o=>.inl o,λc e=>?_⟩
  by_cases q:c=b
  .subst q;exact xE hl λob g=>E9 (g.symm.trans e)
  .exact(hs.2 c q).symm.trans e
 have tup:∀{b:sE} {h':ds},FA env b->ju b s3.heap h'->tK s3.heap h':=λ{b h'} f hs a d ws n sl e=>(hs.2 a λq=>by
  refine s9 (F.ex b f) λo g ne=>?_;rw[q,g]at e;obtain rfl:=gv e;exact ne _ _ H).trans e
 refine zY (F.ω i nl hn) λok d1 d2=>?_
 rcases ok with ok | ok | ok
 .refine s9 F.loc λm n rm=>wpAny_storeName_local ok n (λh' n' hs=>?_) (D F.hk H)
  have T:=tup (.inl H) hs;have hl:∃o,h'.get? env.locals=J o:=vL n' λo es ep e ø=>⟨o,e⟩
  have I':=I.i? (t:=s3.toks+1) F (.inl H) hs;refine h _ I' ⟨F.hk,F.glob,F.blt,F.ω,(ti _ n' (λj y lw a b c=>?_)),λj y lw a b c=>?_,λj y a b=>?_,F.d',F.apart,λb f=>?_,F.free,F.off,F.uniq⟩ (ext (.inl ⟨ok,H⟩) hs hl)
  .by_cases q:y=nl
   .obtain rfl:=q.symm;have:=F.uniq _ _ _ hn a;subst this;refine D (sI H) (ti vv H ?_);rw[oi]at b;cases z:ρ[i]? with
    | none=>rw[z]at b;exact uH b
    | some w=>rw[z]at b;cases b;exact r.mono T
   .refine D (sH q) ?_;have ne:i≠j:=λz=>q (by subst z;rw[hn]at a;cases a;rfl)
    rw[mB ne]at b;exact s9 (rm j y lw a b c) λv' e' r'=>(ti v' e' (r'.mono T))
  .have ne:i≠j:=λz=>by subst z;rw[hn]at a;cases a;rw[ok]at c;rcases c with c | c<;>cases c
   rw[mB ne]at b;exact t8 (F.ψ j y lw a b c) λc' v' e' g r'=>(tU c' v' e' (wW g (λo e=>(hs.2 _ (F.apart _ _ e')).trans e)) (r'.mono T))
  .exact vX (F.φ j y a b) λc' v' e' g=>(w1 c' v' e' (wW g λo e=>(hs.2 _ (F.apart _ _ e')).trans e))
  .by_cases q:b=env.locals
   .subst q;exact w5 n' λo' es ep e hd ø=>(ti o' e (λws n z=>by rw[hd]at z;exact(sN j0 z).elim))
   .exact s9 (F.ex _ f) λo g ne=>(ti o ((hs.2 _ q).trans g) ne)
 .refine vX (F.φ i nl hn ok) λc v0 e g=>wpAny_storeName_cell F.hk ok e g λh' g' hs=>?_
  have hl:∃o,h'.get? c=J o:=s9 g' λo e ø=>⟨o,e⟩
  refine h _ (I.i? (t:=s3.toks) F (.inr ⟨nl,e⟩ : FA env c) hs) ⟨F.hk,F.glob,F.blt,F.ω,?_,λj y lw a b cc=>?_,λj y a b=>?_,F.d',F.apart,λb f=>?_,F.free,F.off,F.uniq⟩ (ext (.inr ⟨ok,e⟩) hs hl)
  .refine s9 F.loc λm n rm=>(ti m (dQ n λo e'=>(hs.2 _ (F.apart _ _ e).symm).trans e') (λj y lw a b cc=>?_))
   have ne:i≠j:=λz=>by subst z;rw[hn]at a;cases a;rw[ok]at cc;cases cc
   rw[mB ne]at b;exact s9 (rm j y lw a b cc) λv' e' r'=>(ti v' e' (r'.mono (tup (.inr ⟨nl,e⟩ : FA env c) hs)))
  .by_cases q:y=nl
   .obtain rfl:=q.symm;have:=F.uniq _ _ _ hn a;subst this;rw[oi]at b;refine(tU c vv e g' ?_);cases z:ρ[i]? with
    | none=>rw[z]at b;exact uH b
    | some w=>rw[z]at b;cases b;exact r.mono (tup (.inr ⟨nl,e⟩ : FA env c) hs)
   .have ne:i≠j:=λz=>q (by subst z;rw[hn]at a;cases a;rfl)
    rw[mB ne]at b;refine t8 (F.ψ j y lw a b cc) λc' v' e' g2 r'=>?_
    have nc:c'≠c:=λz=>q (F.d' _ _ c' e' (z▸e))
    exact(tU c' v' e' (wW g2 (λo e=>(hs.2 _ nc).trans e)) (r'.mono (tup (.inr ⟨nl,e⟩ : FA env c) hs)))
  .by_cases q:y=nl
   .refine tj q.symm ?_;exact(w1 c _ e g')
   .refine vX (F.φ j y a b) λc' v' e' g2=>?_
    have nc:c'≠c:=λz=>q (F.d' _ _ c' e' (z▸e))
    exact(w1 c' v' e' (wW g2 λo e=>(hs.2 _ nc).trans e))
  .by_cases q:b=c
   .refine tj q.symm ?_;exact s9 g' λo' e' hd=>(ti o' e' (λws n z=>by rw[hd]at z;exact(sN j0 z).elim))
   .exact s9 (F.ex _ f) λo g ne=>(ti o ((hs.2 _ q).trans g) ne)
 .exact(hf nl ok).elim
noncomputable abbrev LP:=LH->(LV->LH->Prop)->Prop
variable {fn:V LV->LP}
noncomputable abbrev LE:=uZ->LP
variable {e ma mb mo:LE}
noncomputable abbrev Mr:=uZ->LH->(V LV->LH->Prop)->Prop
variable {es f7:Mr}
noncomputable abbrev LB:=uZ->LH->(bn->LH->Prop)->Prop
variable {cB mc:LB}
inductive Uq where | next | brk | cont | ret (v:LV)
noncomputable abbrev LS:=uZ->LH->(Uq->uZ->LH->Prop)->Prop
variable {bb EQ:LS}
noncomputable def tA(C:Cx)(A:vy)(env:dL)(nm:V (sF ap))(t:Sem sR)(m:LE):Prop:=
 ∀ρ st s K,tV C st s->tG C env nm ρ st s.heap->m ρ st K->td C.aw A t (tI C st s K) wV s
noncomputable def KQ(C:Cx)(st:LH)(s:s8)(K:bn->LH->Prop)(b:bn)(s':s8):Prop:=
 ∃E,tV C E s'/\vV F0 st s.heap E s'.heap/\K b E
noncomputable def wA(C:Cx)(A:vy)(env:dL)(nm:V (sF ap))(t:Sem bn)(m:LB):Prop:=
 ∀ρ st s K,tV C st s->tG C env nm ρ st s.heap->m ρ st K->td C.aw A t (KQ C st s K) wV s
noncomputable def PQ(C:Cx)(st:LH)(s:s8)(K:V LV->LH->Prop)(v:V sR)(s':s8):Prop:=
 ∃lv E,sY s'.heap lv v/\tV C E s'/\vV F0 st s.heap E s'.heap/\K lv E
noncomputable def BW(C:Cx)(A:vy)(env:dL)(nm:V (sF ap))(t:Sem (V sR))(m:Mr):Prop:=
 ∀ρ st s K,tV C st s->tG C env nm ρ st s.heap->m ρ st K->td C.aw A t (PQ C st s K) wV s
noncomputable def zb(C:Cx)(A:vy)(t:sR->sR->Sem sR)(m:LV->LV->LP):Prop:=
 ∀a b va vb st s K,tV C st s->tH s.heap a va->tH s.heap b vb->m a b st K->td C.aw A (t va vb) (tI C st s K) wV s
theorem tI.int{i:al}{tk:M}(I:tV C E s')(k:K (.int i) E):tI C E s' K (.int i t) {s' with toks:=tk}:=.same (lv:=.int i) I ⟨_,H⟩ k
theorem tI.str{tk:M}(I:tV C E s')(k:K (.str nl) E):tI C E s' K (.str nl t) {s' with toks:=tk}:=.same (lv:=.str nl) I ⟨_,H⟩ k
theorem tI.bool{tk:M}(I:tV C E s')(k:K (.bool mf) E):tI C E s' K (.bool mf) {s' with toks:=tk}:=.same (lv:=.bool mf) I H k
theorem tI.none{tk:M}(I:tV C E s')(k:K .none E):tI C E s' K .none {s' with toks:=tk}:=.same (lv:=.none) I H k
theorem Jv{t:Sem bn}{Q:bn->s8->Prop}(h:td C.aw A t (KQ C ZJ s3 KB) wV s3)(g:∀v s' E,tV C E s'->vV F0 ZJ s3.heap E s'.heap->KB v E->Q v s'):td C.aw A t Q wV s3:=
 uB h (λv s' p=>tW p λa b c d=>g v s' a b c d) λø ø e=>e
theorem IQ{K:V LV->LH->Prop}{t:Sem (V sR)}{Q:V sR->s8->Prop}(h:td C.aw A t (PQ C ZJ s3 K) wV s3)(g:∀v s' lv E,sY s'.heap lv v->tV C E s'->vV F0 ZJ s3.heap E s'.heap->K lv E->Q v s'):td C.aw A t Q wV s3:=
 uB h (λv s' p=>vS p λa b c d e f=>g v s' a b c d e f) λø ø e=>e
theorem sY.isEmpty(r:sY h vs ws.toList):vs.isEmpty=ws.isEmpty:=by
 refine(?_:vs.isEmpty=b8 (ws.size=0));refine tj (r.u8.trans iR) ?_;cases vs<;>rfl
namespace L
noncomputable def lit(v:LV):LE:=λø st K=>K v st
noncomputable def var(i:M):LE:=λρ st K=>match ρ[i]? with | some (J v)=>K v st | _=>uF
noncomputable def bin(op:LV->LV->LP)(a b:LE):LE:=λρ st K=>a ρ st λx s1=>b ρ s1 λy s2=>op x y s2 K
noncomputable def un(op:LV->LP)(a:LE):LE:=λρ st K=>a ρ st λx s1=>op x s1 K
noncomputable def nil:Mr:=λø st K=>K [] st
noncomputable def cons(a:LE)(r:Mr):Mr:=λρ st K=>a ρ st λx s1=>r ρ s1 λxs s2=>K (x::xs) s2
noncomputable def mkList(es:Mr):LE:=λρ st K=>es ρ st λxs s1=>R xs<=1000/\∀c,s1 c=sD->K (Y c) (ur s1 c (f1 xs))
noncomputable def mkTup(es:Mr):LE:=λρ st K=>es ρ st λxs s1=>R xs<=1000/\K (f2 xs) s1
noncomputable def mkDict:LE:=λø st K=>∀c,st c=sD->K (Y c) (ur st c (f8 []))
noncomputable def ife(c:LB)(a b:LE):LE:=λρ st K=>c ρ st λt s1=>if t then a ρ s1 K else b ρ s1 K
noncomputable def tv(a:LE):LB:=λρ st K=>a ρ st λx s1=>match x with
 | ii b=>K b s1
 | Y l=>∃xs,s1 l=J (f1 xs)/\K (!xs.isEmpty) s1
 | _=>uF
noncomputable def not(c:LB):LB:=λρ st K=>c ρ st λb s1=>K (!b) s1
noncomputable def and(a b:LB):LB:=λρ st K=>a ρ st λt s1=>if t then b ρ s1 K else K Zt s1
noncomputable def or(a b:LB):LB:=λρ st K=>a ρ st λt s1=>if t then K pH s1 else b ρ s1 K
noncomputable def tt:LB:=λø st K=>K pH st
noncomputable def ff:LB:=λø st K=>K Zt st
noncomputable def Æ(K:bn->LH->Prop)(v:LV)(st:LH):Prop:=match v with | ii t=>K t st | _=>uF
noncomputable def cmp(op:LV->LV->LP)(a b:LE):LB:=λρ st K=>a ρ st λx s1=>b ρ s1 λy s2=>op x y s2 (Æ K)
noncomputable def andE(a b:LE):LE:=λρ st K=>a ρ st λx s1=>Æ (λt s=>if t then b ρ s K else K (ii Zt) s) x s1
noncomputable def ty(f:al->al->LP)(a b:LV):LP:=λst K=>match a with | f0 x=>(match b with | f0 y=>f x y st K | _=>uF) | _=>uF
noncomputable def add(a b:LV):LP:=λst K=>match a with
 | f0 x=>(match b with | f0 y=>K (f0 (x+y)) st | _=>uF)
 | f2 x=>(match b with | f2 y=>R x+R y<=th/\K (f2 (x++y)) st | _=>uF)
 | Y x=>∃y xs ys,b=Y y/\st x=J (f1 xs)/\st y=J (f1 ys)/\R xs+R ys<=th/\∀c,st c=sD->K (Y c) (ur st c (f1 (xs++ys)))
 | _=>uF
noncomputable def sub:=ty λx y st K=>K (f0 (x - y)) st
noncomputable def mul(a b:LV):LP:=λst K=>match b with
 | f0 n=>(match a with
  | f0 x=>IntMulOk x n/\K (f0 (x*n)) st
  | Y x=>∃v,st x=J (f1 [v])/\0<=n/\n<=2 ^ 24/\∀c,st c=sD->K (Y c) (ur st c (f1 (hU n.toNat v)))
  | _=>uF)
 | _=>uF
noncomputable def fdiv:=ty λx y st K=>y≠0/\y.natAbs.log2<9000/\K (f0 (x.fdiv y)) st
noncomputable def fmod:=ty λx y st K=>y≠0/\K (f0 (x.fmod y)) st
noncomputable def band:=ty λx y st K=>K (f0 (mC x y)) st
noncomputable def bor:=ty λx y st K=>K (f0 (mD x y)) st
noncomputable def shl:=ty λx n st K=>0<=n/\n<=1000000/\x.natAbs<2 ^ 64/\K (f0 (x*2 ^ n.toNat)) st
noncomputable def shr:=ty λx n st K=>0<=n/\K (f0 (x.fdiv (2 ^ n.toNat))) st
noncomputable def neg(a:LV):LP:=λst K=>match a with | f0 x=>K (f0 (-x)) st | _=>uF
noncomputable def lt:=ty λx y st K=>K (ii (b8 (x<y))) st
noncomputable def gt:=ty λx y st K=>K (ii (b8 (y<x))) st
noncomputable def ge:=ty λx y st K=>K (ii (b8 (y<=x))) st
noncomputable def isN(a:LV):LP:=λst K=>K (ii (b8 (a=.none))) st
noncomputable def isNotN(a:LV):LP:=λst K=>K (ii (!b8 (a=.none))) st
end L
open _root_.Mine.L renaming lit->pG,var->U,bin->pI,un->pJ,nil->pK,cons->pL,mkList->pM,mkTup->pN,mkDict->pO,ife->pP,tv->pQ,not->pR,and->pS,or->pU,tt->pV,ff->pW,cmp->pX,andE->pY,add->pZ,sub->p6,mul->p7,fmod->p8,band->p9,bor->qa,shl->qb,shr->qc,neg->qe,lt->qf,isN->qg,isNotN->qh
theorem eO(k:U i ρ s K):∃v,ρ[i]?=J (J v)/\K v s:=by
 unfold U at k;cases e:ρ[i]? with
 | none=>rw[e]at k;exact k.elim
 | some o=>
  rw[e]at k;cases o with
  | none=>exact k.elim
  | some v=>exact ti v H k
theorem tH.h_(r:tH h ZM vv):(vv==.none)=b8 (ZM=.none):=by
 cases ZM with
 | none=>have r:=r;refine D r ?_;exact(sM H).symm
 | bool b=>have r:=r;refine D r ?_;exact Fc nofun
 | int i=>exact Ea vv r λt=>Fc nofun
 | str x=>exact Ea vv r λt=>Fc nofun
 | ref a=>have r:=r;refine D r ?_;exact Fc nofun
 | tup vs=>(refine w5 r λa ws n e9 ø ø=>?_;refine D e9 ?_);exact Fc nofun
namespace S
theorem var(hn:Zw[i]?=J (J nl)):tA C A env Zw (eval (.Name nl pos) env) (U i):=λρ st s K I F k=>by
 exact s9 (eO k) λv hv k=>
  wpAny_Name (F.load hn hv λw r=>.mk r I (.refl ..) k) (F.ω i nl hn).2.1
theorem aha:tA C A env Zw (eval (.Constant (.int hs) k pos) env) (pG (.int hs)):=λø ø ø ø I ø k=>wpAny_mkInt (.int I k)
theorem Ε:tA C A env Zw (eval (.Constant (.bool mf) k pos) env) (pG (.bool mf)):=λø ø s ø I ø k=>sO (tI.bool I k)
theorem n?:tA C A env Zw (eval (.Constant .none k pos) env) (pG .none):=λø ø s ø I ø k=>sO (tI.none I k)
theorem Ξ:tA C A env Zw (eval (.Constant (.str nl) k pos) env) (pG (.str nl)):=λø ø ø ø I ø k=>Constant_str (.str I k)
theorem bin{op:Ed}{m:LV->LV->LP}(ho:zb C A (wm op) m)(hl:tA C A env Zw (eval ea env) e)(hr:tA C A env Zw (eval eb env) mo) :
  tA C A env Zw (eval (.BinOp ea op eb pos) env) (pI m e mo):=λρ st s K I F k=>by
 exact wpAny_BinOp (vf (hl ρ st s _ I F k) λva s1 a ZK ra I1 x1 k1=>(vf (hr ρ ZK s1 _ I1 (F.ext I x1) k1) λvb s2 b ZV rb I2 x2 k2=>(AW (ho a b va vb ZV s2 K I2 (ra.mono (x2.wn I1.rep)) rb k2) (x1.trans x2))))
theorem Ο{op:A0}{m:LV->LV->LP}(ho:zb C A (u7 op) m)(hl:tA C A env Zw (eval ea env) e)(hr:tA C A env Zw (eval eb env) mo)
  (hm:Dq op eb=Zt) :
  tA C A env Zw (eval (.Compare ea [op] [eb] pos) env) (pI m e mo):=λρ st s K I F k=>by
 refine wpAny_Compare1 (vf (hl ρ st s _ I F k) λva s1 a ZK ra I1 x1 k1=>?_) hm;exact vf (hr ρ ZK s1 _ I1 (F.ext I x1) k1) λvb s2 b ZV rb I2 x2 k2=>AW (ho a b va vb ZV s2 K I2 (ra.mono (x2.wn I1.rep)) rb k2) (x1.trans x2)
theorem Ġ{Q:bn->s8->Prop}(r:tH s'.heap (ii mf) vv)(h:Q mf s'):td C.aw A (truthy vv) Q wV s':=by
 subst r;exact vg h
theorem cmp{op:A0}{l r:bm}{pos:Pos}{ml mr:LE}{m:LV->LV->LP}{whole:Sem sR}(ho:zb C A (u7 op) m)(hl:tA C A env Zw (eval l env) ml)(hr:tA C A env Zw (eval r env) mr)
  (hm:Dq op r=Zt) :
  wA C A env Zw (uD (.Compare l [op] [r] pos) env whole) (pX m ml mr):=λρ st s K I F k=>by
 refine xt (vf (hl ρ st s _ I F k) λva s1 a ZK ra I1 x1 k1=>?_) hm;refine vf (hr ρ ZK s1 _ I1 (F.ext I x1) k1) λvb s2 b ZV rb I2 x2 k2=>vf (ho a b va vb ZV s2 _ I2 (ra.mono (x2.wn I1.rep)) rb k2) λv s3 lv ZJ r3 I3 x3 k3=>?_
 cases lv with
 | bool t=>exact Ġ r3 (tC ZJ I3 ((x1.trans x2).trans x3) k3)
 | _=>exact k3.elim
theorem not(h:wA C A env Zw (uD ea env (eval ea env)) mc):wA C A env Zw (uD (.UnaryOp .Not ea pos) env ej) (pR mc):=λρ st s K I F k=>
 wpAny_isTrue_Not (Jv (h ρ st s _ I F k) λø ø ZK I1 x1 k1=>(tC ZK I1 x1 k1))
theorem tt:wA C A env Zw (Bv .And [] env) pV:=λø st ø ø I ø k=>wpAny_allTrue_And_nil (tC st I (.refl ..) k)
theorem ff:wA C A env Zw (Bv .Or [] env) pW:=λø st ø ø I ø k=>wpAny_allTrue_Or_nil (tC st I (.refl ..) k)
theorem ahd(h:wA C A env Zw (uD ea env (eval ea env)) mc)(hr:wA C A env Zw (Bv .And as env) cB):wA C A env Zw (Bv .And (ea::as) env) (pS mc cB):=λρ st s K I F k=>by
 refine wpAny_allTrue_And_cons (Jv (h ρ st s _ I F k) λt s1 ZK I1 x1 k1=>?_);cases t
 .exact(tC ZK I1 x1 k1)
 .exact Jv (hr ρ ZK s1 _ I1 (F.ext I x1) k1) λø ø ZV I2 x2 k2=>(tC ZV I2 (x1.trans x2) k2)
theorem orc(h:wA C A env Zw (uD ea env (eval ea env)) mc)(hr:wA C A env Zw (Bv .Or as env) cB):wA C A env Zw (Bv .Or (ea::as) env) (pU mc cB):=λρ st s K I F k=>by
 refine wpAny_allTrue_Or_cons (Jv (h ρ st s _ I F k) λt s1 ZK I1 x1 k1=>?_);cases t
 .exact Jv (hr ρ ZK s1 _ I1 (F.ext I x1) k1) λø ø ZV I2 x2 k2=>(tC ZV I2 (x1.trans x2) k2)
 .exact(tC ZK I1 x1 k1)
theorem T_{op:BoolOp}(h:wA C A env Zw (Bv op as env) mc):wA C A env Zw (uD (.BoolOp op as pos) env ej) mc:=λρ st s K I F k=>
 wpAny_isTrue_BoolOp (h ρ st s K I F k)
theorem tv{e:bm}{m:LE}(h:tA C A env Zw (eval e env) m)(he:uD e env (eval e env)=(do let v <- eval e env;Ef e.pos;Eg [v] (truthy v))):wA C A env Zw (uD e env (eval e env)) (pQ m):=λρ st s K I F k=>by
 refine wpAny_isTrue_value (vf (h ρ st s _ I F k) λv s1 lv ZK r1 I1 x1 k1=>?_) he;cases lv with
 | bool b=>exact Ġ r1 (tC ZK I1 x1 k1)
 | ref l=>
  subst r1;exact s9 k1 λxs hl k1=>t8 (I1.rep.obj _ _ hl) λws n g z r=>wpAny_truthy_list (yS _ g H n H) (by lia) (tC ZK (I1.toks _) x1 (tj r.isEmpty k1))
 | _=>exact k1.elim
theorem ife(hc:wA C A env Zw (uD ea env (eval ea env)) mc)(ha:tA C A env Zw (eval eb env) ma)(hb:tA C A env Zw (eval ec env) mb) :
  tA C A env Zw (eval (.IfExp ea eb ec pos) env) (pP mc ma mb):=λρ st s K I F k=>by
 refine sG (Jv (hc ρ st s _ I F k) λt s1 ZK I1 x1 k1=>?_);cases t
 .exact AW (hb ρ ZK s1 K I1 (F.ext I x1) k1) x1
 .exact AW (ha ρ ZK s1 K I1 (F.ext I x1) k1) x1
theorem neg{x:bm}{pos:Pos}{m:LE}(h:tA C A env Zw (eval x env) m):tA C A env Zw (eval (.UnaryOp .USub x pos) env) (pJ qe m):=λρ st s K I F k=>by
 refine Ju (h ρ st s _ I F k) λlv ZK v s1 r1 I1 x1 k1=>sG (x9 (uf ?_))
 cases lv with
 | int i=>exact Ea v r1 λt=>P.neg_int ((tI.int I1 k1).from x1)
 | _=>exact k1.elim
theorem nil:BW C A env Zw (wt (uO pos (sZ [] env))) pK:=λø st ø ø I ø k=>spliced_nil (uY ([]) st trivial I (.refl ..) k)
theorem cons(h:tA C A env Zw (eval ea env) mo)(hr:BW C A env Zw (wt (uO pos (sZ as env))) es)
  (hs:sZ (ea::as) env=(Zt,eval ea env)::sZ as env):BW C A env Zw (wt (uO pos (sZ (ea::as) env))) (pL mo es):=λρ st s K I F k=>by
 exact D hs (spliced_cons (vf (h ρ st s _ I F k) λv s1 lv ZK r1 I1 x1 k1=>(IQ (hr ρ ZK s1 _ I1 (F.ext I x1) k1) λvs s2 BT ZV r2 I2 x2 k2=>(uY (lv::BT) ZV ⟨r1.mono (x2.wn I1.rep),r2⟩ I2 (x1.trans x2) k2))))
theorem mkTup(h:BW C A env Zw (wt (uO pos (sZ as env))) f7):tA C A env Zw (eval (.Tuple as k pos) env) (pN f7):=λρ st s K I F k=>by
 refine Tuple_ (IQ (h ρ st s _ I F k) λvs s1 BT ZK r1 I1 x1 k1=>(uc ((tI.ç I1 (by simpa using r1) (D jM (tD [1000,33554432] 0x4240908508c0128403 H k1.1 r1.u8)) k1.2).from x1) ?_));show vs.toArray.size<=th;exact D jM (D sS (tD [1000,16777216] 0x4240908508c0128403 H k1.1 r1.u8))
theorem mkList(h:BW C A env Zw (wt (uO pos (sZ as env))) f7):tA C A env Zw (eval (.List as pos) env) (pM f7):=λρ st s K I F k=>by
 refine List_ (IQ (h ρ st s _ I F k) λvs s1 BT ZK r1 I1 x1 k1=>(uc ((tI.newList I1 (by simpa using r1) (D jM (tD [1000,33554432] 0x4240908508c0128403 H k1.1 r1.u8)) k1.2).from x1) ?_));show vs.toArray.size<=th;exact D jM (D sS (tD [1000,16777216] 0x4240908508c0128403 H k1.1 r1.u8))
theorem ty{op:sR->sR->Sem sR}{f:al->al->LP}(h:∀{x y:al} {p q:Tok} {st:LH} {s:s8} {K:LV->LH->Prop},tV C st s->f x y st K->td C.aw A (op (.int x p) (.int y q)) (tI C st s K) wV s):zb C A op (L.ty f):=λa b va vb st s K I ra rb k=>by
 cases a with
 | int x=>
  cases b with
  | int y=>exact Ea va ra λt=>Ea vb rb λu=>h I k
  | _=>exact k.elim
 | _=>exact k.elim
theorem j?(r:sY h fs ws.toList)(e:ws.isEmpty=pH):fs=[]:=ny.mp (r.isEmpty.trans e)
theorem ğ(r1:sY h fs cz.toList)(r2:sY h ys ws.toList)(hk:R fs+R ys<=th):cz.size+ws.size<=th:=
 tj (r1.u8.trans iR) (tj (r2.u8.trans iR) hk)
theorem t_(h:i<=th):i<=2 ^ 25:=gA h (by refine D sS ?_;decide)
theorem add(n:M)(_:Rm A n):zb C A (wm .Add) pZ:=λa b va vb st s K I ra rb k=>by
 cases a with
 | int x=>
  cases b with
  | int y=>(refine xE ra λt e9=>?_;subst e9);(refine xE rb λu e9=>?_;subst e9);exact P.add_int (.int I k)
  | _=>exact k.elim
 | tup xs=>
  cases b with
  | tup ys=>
   obtain ⟨p,vs,n1,rfl,g1,z1,r1⟩:=ra;obtain ⟨q,ws,n2,rfl,g2,z2,r2⟩:=rb
   by_cases e1:vs.isEmpty=pH
   .refine concat_meets (ti _ g1 H) (ti _ g2 H) noFill_tuple_add seq_tuple_add oj oo (oq _ _) (AutoSeq1.tuple___add___tuple_tuple_0 p vs n1 q ws n2 e1) (uS g1 g2 ?_);cases j? r1 e1;exact .same (lv:=f2 ys) I (uQ q ws n2 H g2 z2 r2) k.2
   .by_cases e2:ws.isEmpty=pH
    .refine concat_meets (ti _ g1 H) (ti _ g2 H) noFill_tuple_add seq_tuple_add oj oo (oq _ _) (AutoSeq1.tuple___add___tuple_tuple_1 p vs n1 q ws n2 e1 e2) (uS g1 g2 ?_);cases j? r2 e2;exact .same (lv:=f2 xs) I (uQ p vs n1 H g1 z1 r1) (gY xs▸k.2)
    .exact P.add_tuple g1 g2 e1 e2 (.ç I (D nz (r1.append r2)) (D nA (t_ (ğ r1 r2 k.1))) k.2) (ğ r1 r2 k.1)
  | _=>exact k.elim
 | ref x=>
  obtain ⟨y,xs,ys,rfl,h1,h2,hk,k⟩:=k;subst ra;subst rb;obtain ⟨vs,n1,g1,z1,r1⟩:=I.rep.obj _ _ h1;obtain ⟨ws,n2,g2,z2,r2⟩:=I.rep.obj _ _ h2;exact P.add_list g1 g2 (.newList I (by rw[nz];exact r1.append r2) (by rw[nA];exact t_ (ğ r1 r2 hk)) k) (ğ r1 r2 hk)
 | _=>exact k.elim
theorem sub:zb C A (wm .Sub) p6:=ty λI k=>P.sub_int (.int I k)
theorem fmod:zb C A (wm .Mod) p8:=ty λI k=>mod_int' k.1 (.int I k.2)
theorem fdiv:zb C A (wm .FloorDiv) L.fdiv:=ty λI k=>floordiv_int k.1 (.int I k.2.2) (.inl (PyProof.noPylong_of_log2 k.2.1))
theorem band:zb C A (wm .BitAnd) p9:=ty λI k=>and_int (.int I k)
theorem bor:zb C A (wm .BitOr) qa:=ty λI k=>or_int (.int I k)
theorem shl:zb C A (wm .LShift) qb:=ty λI k=>lshift_int_small k.1 k.2.1 k.2.2.1 (.int I k.2.2.2)
theorem shr:zb C A (wm .RShift) qc:=ty λI k=>rshift_int k.1 (.int I k.2)
theorem lt:zb C A (u7 .Lt) qf:=ty λI k=>P.lt_int (.bool I k)
theorem gt:zb C A (u7 .Gt) L.gt:=ty λI k=>P.gt_int (.bool I k)
theorem ge:zb C A (u7 .GtE) L.ge:=ty λI k=>P.ge_int (.bool I k)
end S
noncomputable def v5(Zy:V (LV×LV))(k:LV):sF LV:=(Zy.find? λp=>decide (p.1=k)).map (·.2)
noncomputable def B6(Zy:V (LV×LV))(k:LV):bn:=(v5 Zy k).isSome
noncomputable def Cp(Zy:V (LV×LV))(k v:LV):V (LV×LV):=if B6 Zy k then Zy.map (λp=>if p.1=k then (p.1,v) else p) else Zy++[(k,v)]
noncomputable def MD:LV->sF LA
 | f0 i=>J (.inl i)
 | g3 x=>J (.inr x)
 | _=>sD
noncomputable def Dr:V LV->sF (V LA)
 | []=>J []
 | x::r=>(MD x).bind λa=>(Dr r).map λq=>a::q
theorem IS(ks:V LA):Dr (ks.map LA.lv)=J ks:=by
 induction ks with
 | nil=>rfl
 | cons a r ih=>
  refine(?_:((MD a.lv).bind λa=>(Dr (r.map LA.lv)).map λq=>a::q)=_);refine D ih ?_;cases a<;>rfl
theorem OI{a:LA}(e:MD b=J a):b=a.lv:=by
 cases b with
 | int i=>refine tj (gv e) ?_;rfl
 | str i=>refine tj (gv e) ?_;rfl
 | none=>exact uH e
 | bool=>exact uH e
 | tup=>exact uH e
 | ref=>exact uH e
theorem KR:∀{ks:V LA},Dr vs=J ks->vs=ks.map LA.lv:=by
 induction vs with
 | nil=>intro ks e;obtain rfl:=gv e;rfl
 | cons x r ih=>
  intro ks e;refine s9 (kB.mp e) λa ha e=>s9 (gR.mp e) λq hq e=>?_
  refine tj e ?_;exact congr (sJ List.cons (OI ha)) (ih hq)
theorem PR{α β:Type} [Cm α] {kv:α×β} {r:V (α×β)} {k:α} (e:kv.1=k):((kv::r).find? λp=>decide (p.1=k)).map j3=J kv.2:=sJ (sF.map j3) (kC (sM e))
theorem PS{α β:Type} [Cm α] {kv:α×β} {r:V (α×β)} {k:α} (e:¬ kv.1=k):((kv::r).find? λp=>decide (p.1=k)).map j3=(r.find? λp=>decide (p.1=k)).map j3:=sJ (sF.map j3) (jN (kX.mp (sT e)))
theorem PT{kv:LV×LV}(e:kv.1=b):v5 (kv::Zy) b=J kv.2:=PR e
theorem PU{kv:LV×LV}(e:¬ kv.1=b):v5 (kv::Zy) b=v5 Zy b:=PS e
noncomputable def OR{α:Type}(bi:LV->α->Prop):sF LV->sF α->Prop
 | some lv,o=>∃v,o=J v/\bi lv v
 | none,o=>o=sD
theorem OR.has{α:Type}{bi:LV->α->Prop}{p:sF α}(q:OR bi y12 p):p.isSome=y12.isSome:=by
 cases y12 with
 | none=>have q:p=sD:=q;refine D q ?_;rfl
 | some=>exact s9 q λv e ø=>e▸rfl
noncomputable def wu(Zy:V (LV×LV)):bn:=Zy.all λp=>match p.1 with | f0 _=>pH | _=>Zt
noncomputable def vG(Zy:V (LV×LV)):bn:=Zy.all λp=>match p.1 with | f2 _=>pH | _=>Zt
inductive Bw (Zy:V (LV×LV)):LV->Prop
 | int {i:al}:wu Zy=true->Bw Zy (.int i)
 | tup {ks:V LA}:vG Zy=true->Bw Zy (.tup (ks.map LA.lv))
theorem Bw.atoms(hk:vG Zy=pH)(ha:(Mine.Dr vs).isSome=pH):Bw Zy (.tup vs):=
 xE (j5.mp ha) λas e=>D (KR e) (.tup hk)
theorem C3{ks:V (al×sR)}{i:al}(r:yg h Zy ks):OR (tH h) (v5 Zy (f0 i)) (GZ ks i):=
 yg.ind (P:=λZy ks=>OR (tH h) (v5 Zy (f0 i)) (GZ ks i)) H (λkv r x q a b ih=>by
  by_cases e:x.1=i
  .exact D (PT (a.trans (sJ f0 e))) ⟨_,PR e,b⟩
  .exact D (PU λz=>e (LV.int.inj (a.symm.trans z))) (D (show GZ (x::q) i=GZ q i from PS e) ih)) r
theorem eA:∀{a b:V LA},a.map LA.lv=b.map LA.lv->a=b:=λ{a b} e=>by
 have:=IS a;rw[e,IS b]at this;exact(gv this).symm
theorem A1{xs:V (V LA×sE×sR)}{k:V LA}(r:yh h Zy xs):OR (λlv p=>tH h lv p.2) (v5 Zy (f2 (k.map LA.lv))) (Hd xs k):=
 yh.ind (P:=λZy xs=>OR (λlv p=>tH h lv p.2) (v5 Zy (f2 (k.map LA.lv))) (Hd xs k)) H (λkv r x q a ø b ih=>by
  by_cases e:x.1=k
  .exact D (PT (a.trans (sJ (λk=>f2 (k.map LA.lv)) e))) ⟨_,PR e,b⟩
  .exact D (PU λz=>e (eA (LV.tup.inj (a.symm.trans z)))) (D (show Hd (x::q) k=Hd q k from PS e) ih)) r
theorem Fd{ks:V (al×sR)}(r:yg h Zy ks):R Zy=R ks:=
 yg.ind (P:=λZy ks=>R Zy=R ks) H (λø ø ø ø ø ø ih=>sJ lN ih) r
theorem Fe{ks:V (V LA×sE×sR)}(r:yh h Zy ks):R Zy=R ks:=
 yh.ind (P:=λZy ks=>R Zy=R ks) H (λø ø ø ø ø ø ø ih=>sJ lN ih) r
theorem He{ks:V (al×sR)}(r:yg h Zy ks):Zy.map (·.1)=ks.map λx=>f0 x.1:=
 yg.ind (P:=λZy ks=>Zy.map (·.1)=ks.map λx=>f0 x.1) H (λø ø ø ø a ø ih=>congr (sJ List.cons a) ih) r
theorem vY.â(r:vY prog e7 h a Zy)(hk:wu Zy=pH):∃ks,h.DictOf (vt prog e7) a ks/\yg h Zy ks:=by
 rcases r with r | ⟨xs,hd,r⟩
 .exact r
 .cases Zy with
  | nil=>
   cases xs with
   | nil=>
    refine vz hd λo es ep g x d q ø=>?_
    have:es = #[]:=by obtain ⟨l⟩:=es;simp at q;refine D q ?_;rfl
    subst this;exact(ti ([]) (C2 o (#[]) ep g x d (λø he=>by simp at he) Pairs.nil iU) trivial)
   | cons _ _=>exact r.elim
  | cons kv t=>
   cases xs with
   | nil=>exact r.elim
   | cons x q=>simp[wu,r.1]at hk
theorem vY.á(r:vY prog e7 h a Zy)(hk:vG Zy=pH):∃xs,h.DictOfH (t5 (tZ prog e7)) a xs/\yh h Zy xs:=by
 rcases r with ⟨ks,hd,r⟩ | r
 .cases Zy with
  | nil=>
   cases ks with
   | nil=>
    refine C1 hd λo es ep g x d q p ø=>?_
    have:es = #[]:=by obtain ⟨l⟩:=es;cases p;rfl
    subst this;exact(ti ([]) (C2 o (#[]) ep g x d H (λø he=>by simp at he) iU) trivial)
   | cons _ _=>exact r.elim
  | cons kv t=>
   cases ks with
   | nil=>exact r.elim
   | cons x q=>simp[vG,r.1]at hk
 .exact r
theorem ME{ks:V LA}:∀{ws:V sR},sY h (ks.map LA.lv) ws->ItemsAre (tZ prog e7) ks ws:=by
 induction ks with
 | nil=>intro ws r;cases ws with | nil=>exact .nil | cons=>exact r.elim
 | cons k t ih=>
  intro ws r;cases ws with
  | nil=>exact r.elim
  | cons v q=>
   refine .cons ?_ (ih r.2);cases k with
   | inl i=>(refine xE r.1 λt e9=>?_;refine D e9 ?_);simp[tZ,LA.isA,jF]
   | inr x=>obtain ⟨t,rfl⟩:=r.1;simp[tZ,LA.isA,jZ]
theorem Ff{w:World}{ks:V LA}(r:tH h (.tup (ks.map LA.lv)) vv):∃a,vv=.ref a/\(t5 (tZ prog w)).is h ks a:=by
 obtain ⟨a,ws,n,rfl,g,z,r⟩:=r;exact⟨a,H,_,ws,n,g,H,H,ME r⟩
namespace L
noncomputable def item(o i:LV):LP:=λst K=>match o with
 | f2 vs=>∃(n:M) (v:LV),i=f0 n/\vs[n]?=J v/\K v st
 | Y l=>∃v,((∃vs,st l=J (f1 vs)/\((∃n:M,i=f0 n/\vs[n]?=J v)\/∃n:M,n<R vs/\i=f0 (n - R vs)/\vs[n]?=J v))\/
   ∃Zy,(st l=J (f8 Zy)\/∃o,st l=J (Da o Zy))/\Bw Zy i/\v5 Zy i=J v)/\K v st
 | _=>uF
end L
open _root_.Mine.L renaming item->qi
theorem DC(C:Cx)(I:tV C E s')(o:tT E a):(a==zj)=Zt:=(I.own a o).2
theorem sY.at{n:M}(r:sY h vs ws.toList)(hv:vs[n]?=J v):n<ws.size/\∃x,ws[n]?=J x/\tH h v x:=by
 refine s9 (r.get hv) λx hx rx=>?_
 rw[lP]at hx;exact⟨(uX.getElem?_eq_some_iff.mp hx).1,(ti x hx rx)⟩
theorem sY.len(r:sY h vs ws.toList):R vs=ws.size:=r.u8.trans iR
theorem sY.inv(r:sY h (b::fs) cN):∃v ws,cN=v::ws/\tH h b v/\sY h fs ws:=by
 cases cN with
 | nil=>exact r.elim
 | cons v cN=>exact tU v cN H r.1 r.2
theorem sY.inv1{vs:V sR}(r:sY h [ZM] vs):∃v,vs=[v]/\tH h ZM v:=t8 r.inv λv ws e a b=>ti v (e.trans (sJ _ (fk.mp b))) a
theorem sY.inv2(r:sY h [ZM,sy] cN):∃v w,cN=[v,w]/\tH h ZM v/\tH h sy w:=t8 r.inv λv ws e a b=>s9 b.inv1 λw e2 c=>tU v w (e.trans (sJ _ e2)) a c
theorem sY.v?(r:sY h [ZM,sy,sv] cN):∃v w u,cN=[v,w,u]/\tH h ZM v/\tH h sy w/\tH h sv u:=t8 r.inv λv ws e a b=>t8 b.inv2 λw u e2 c d=>⟨v,w,u,e.trans (sJ _ e2),a,c,d⟩
namespace S
theorem getItem(n:M)(bi:Rm A n){st:LH}{s:s8}{o i:LV}{vo vi:sR}{K:LV->LH->Prop}(I:tV C st s)(ro:tH s.heap o vo)(ri:tH s.heap i vi)(k:qi o i st K) :
  ∃T id,s.TypeIs vo T/\typeLookup (.type T) "__getitem__" = pure (J (.builtin id))/\td C.aw A (lQ vo vi) (tI C st s K) wV s:=by
 cases o with
 | tup vs=>
  obtain ⟨j,v,rfl,hv,k⟩:=k;obtain ⟨a,ws,n,rfl,g,z,r⟩:=ro
  (refine xE ri λt e9=>?_;subst e9)
  obtain ⟨ZY,x,hx,rx⟩:=r.at hv;refine⟨_,_,⟨_,g,H⟩,PySem.F.slot_tuple_getitem.lookup,P.getItem_tuple (k:=j) g (ig _) (by lia) ?_ hx (.same (t:=s.toks) I rx k)⟩;unfold seqIndex?;simp only[show ¬ (j:al)<0 by exact kD jy (ig _),if_false,sM (ig j),Bool.true_and,show(j:al)<(ws.size:al) by exact kD g8 ZY,decide_true,Aa,jl]
 | ref l=>
  subst ro;obtain ⟨v,⟨vs,hl,hi⟩ | ⟨Zy,hl,hk,hv⟩,k⟩:=k
  .refine t8 (I.rep.obj _ _ hl) λws n g z r=>?_
   rcases hi with ⟨j,rfl,hv⟩ | ⟨j,ZY,rfl,hv⟩
   .exact Ea vi ri λt=>Mz (r.at hv) λø x hx rx=>(tU _ _ (ti _ g H) Ab.lookup (wpAny_getItem_list (yS _ g H n H) (ig j) (by lia) hx (.same (t:=s.toks) I rx k)))
   .refine Ea vi ri λt=>Mz (r.at hv) λø x hx rx=>?_
    have hlen:=r.len;exact(tU _ _ (ti _ g H) Ab.lookup (wpAny_getItem_list_neg (yS _ g H n H) (by lia) (by lia) (by lia) (by rw[<- hlen,show(j - R vs+R vs:al)=j by lia,jl];exact hx) (.same (t:=s.toks) I rx k)))
  .have rd:vY C.prog C.aH s.heap l Zy:=hl.elim (λh=>I.rep.obj _ _ h) λ⟨o,h⟩=>(I.rep.obj _ _ h).2
   cases hk with
   | int hk=>
    refine s9 (rd.â hk) λks hd r=>Ea vi ri λt=>?_
    have q:=C3 (i:=by assumption) r;rw[hv]at q;exact s9 q λx hx rx=>(tU _ _ hd.typeIs slot_dict_getitem.lookup (wpAny_getItem_of (knd:=vt C.prog C.aH) (by simp[vt,jF]) hd.mapOf hx (.same I rx k)))
   | tup hk=>
    refine s9 (rd.á hk) λxs hd r=>?_
    (refine s9 (Ff (prog:=C.prog) (w:=C.aH) ri) λa e9 wl=>?_;subst e9)
    have q:=A1 (k:=by assumption) r;rw[hv]at q;exact s9 q λp hp rp=>(tU _ _ hd.typeIs slot_dict_getitem.lookup (wpAny_getItem_heap (show A.units+1<Gd by exact tD [64,1] 0x1421200252802400422 H bi.line) wl hd hp (.same I rp k)))
 | _=>exact k.elim
theorem item(n:M)(bi:Rm A n)(ho:tA C A env Zw (eval ea env) mo)(hi:tA C A env Zw (eval eb env) e)
  (hs:∀vo vi,subscripted eb Zt vo vi=operate [vo,vi] (lQ vo vi)) :
  tA C A env Zw (eval (.Subscript ea eb pos) env) (pI qi mo e):=λρ st s K I F k=>by
 exact Subscript_ (vf (ho ρ st s _ I F k) λvo s1 lo ZK r1 I1 x1 k1=>(vf (hi ρ ZK s1 _ I1 (F.ext I x1) k1) λvi s2 li ZV r2 I2 x2 k2=>(t8 (getItem n bi I2 (r1.mono (x2.wn I1.rep)) r2 k2) λT id hT hl hg=>Eh hT hl (AW hg (x1.trans x2)) (hs vo vi))))
end S
noncomputable def Jw(v:LV)(n:M):sF M:=match v with
 | .none=>J 0
 | f0 x=>J (if x<0 then n - (-x).toNat else min x.toNat n)
 | _=>sD
noncomputable def Jx(v:LV)(n:M):sF M:=match v with
 | .none=>J n
 | f0 y=>J (if y<0 then n - (-y).toNat else min y.toNat n)
 | _=>sD
namespace L
noncomputable def ŋ(o lo hi:LV):LP:=λst K=>match o with
 | Y l=>∃vs a b,(st l=J (f1 vs)\/∃o,st l=J (SZ o vs))/\Jw lo (R vs)=J a/\Jx hi (R vs)=J b/\R vs<=th/\∀c,st c=sD->K (Y c) (ur st c (f1 ((vs.drop a).take (b - a))))
 | f2 vs=>(match lo,hi with
  | f0 a,.none=>0<=a/\a<=R vs/\R vs<=th/\K (f2 (vs.drop a.toNat)) st
  | _,_=>uF)
 | g3 x=>(match lo,hi with
  | .none,f0 j=>Str.length x<=th/\K (g3 (Txt.slice x sD (J j))) st
  | _,_=>uF)
 | _=>uF
noncomputable def slice(o lo hi:LE):LE:=λρ st K=>o ρ st λx s1=>lo ρ s1 λa s2=>hi ρ s2 λb s3=>ŋ x a b s3 K
end L
open _root_.Mine.L renaming slice->qj
theorem NF(r:tH h b vv){x:sF M}(e:Jw b X=x\/Jx b X=x)(hx:x.isSome):∃o,IsPart vv o/\Jw b X=J (kms_lo o X)/\Jx b X=J (kms_hi o X):=by
 cases b with
 | none=>have r:_=_:=r;refine D r ?_;exact(tC sD .none H rfl)
 | int i=>exact Ea vv r λt=>(tC (J i) (.int i t) H rfl)
 | _=>rcases e with e | e<;>simp[Jw,Jx]at e<;>subst e<;>exact ft hx
theorem Dd{u:Tok}(ht:s'.heap.get? g=J ⟨.type "tuple",sD,.seq ws i,#[]⟩)(hs:s'.heap.IsSliceOf d (.int 0 u) .none .none)
  (h:Q₁ (.ref g) s'):td (Ha prog e7) A (lQ (.ref g) (.ref d)) Q₁ am s':=by
 have ht':IsTup s'.heap g ws:=(yS _ ht H i H);refine tW (id hs) λos hos Tl hds=>?_
 unfold lQ
 try with_reducible refine uf ?_
 first | refine sG (sO ?_) | skip
 refine sG (wpAny_sequenceKey ht'.typeIs (by decide) (sG (vB (name:=mE "__getitem__") ht'.typeIs wB
  (uV wB ht'.typeIs entry_tuple_getitem ?_ (args_tuple_getitem _ _)))))
 refine(?_:td _ _ (Ac.Tuple.tupleItemsOf (.ref g) >>=_) _ _ s');refine sG (tupleItemsOf_ ht' (sG (Bx ((ti os hos Tl):s'.TypeIs (.ref d) "slice") (D (sI (by decide)) (sG (sliceApplied_from (a:=0) (n:=ws.size) hs (gE _) ?_))))));refine(?_:td _ _ (if (((0:M):al)==0&&(1:al)==1&&(ws.size - 0)==ws.size)=pH then _ else _) _ _ s');refine D (sI (by simp)) (sG (m:=Ac.Tuple.tupleIsExact (.ref g)) (sG (Bx ht'.typeIs (sO (D (sI (by decide)) ?_)))));exact sG (wpAny_rule (sO (ti _ H (sO h))))
namespace S
theorem S!{lo:sF bm}(e:lo=sD):tA C A env Zw (v7 (By lo env)) (pG .none):=λø ø s ø I ø k=>by
 subst e;exact sO (tI.none (tk:=s.toks) I k)
theorem part(h:tA C A env Zw (eval ea env) e):tA C A env Zw (v7 (By (J ea) env)) e:=h
theorem slice{o:bm}{lo hi:sF bm}{p pos:Pos}{mo ml mu:LE}(ho:tA C A env Zw (eval o env) mo)(hl:tA C A env Zw (v7 (By lo env)) ml)(hu:tA C A env Zw (v7 (By hi env)) mu) :
  tA C A env Zw (eval (.Subscript o (.Slice lo hi sD p) pos) env) (qj mo ml mu):=λρ st s K I F k=>by
 refine Subscript_ (vf (ho ρ st s _ I F k) λvo s1 x ZK r1 I1 x1 k1=>(?_:td C.aw A (v7 (By lo env) >>=λl=>Eg [l] (v7 (By hi env)) >>=λu=>Eg [l,u] (v7 (By sD env)) >>=λsv=>newFields "slice" [l,u,sv]) _ _ _));refine Ju (hl ρ ZK s1 _ I1 (F.ext I x1) k1) λa ZV va s2 r2 I2 x2 k2=>sG (uf (vf (hu ρ ZV s2 _ I2 ((F.ext I x1).ext I1 x2) k2) λvb s3 b ZJ r3 I3 x3 k3=>(sG (uf (sO (uc ?_))))))
 have X:vV F0 st s.heap ZJ s3.heap:=(x1.trans x2).trans x3;have g!:=r1.mono ((x2.wn I1.rep).trans (x3.wn I2.rep));have g?:=r2.mono (x3.wn I2.rep);have push:∀b o,s3.heap.get? b=J o->(s3.heap.push {cls:=.type "slice",data:=.fields #[va,vb,.none]}).get? b=J o:=uC _ _;have I4:tV C ZJ {s3 with heap:=s3.heap.push {cls:=.type "slice",data:=.fields #[va,vb,.none]}}:=I3.Α push H rfl;cases x with
 | ref l=>
  subst g!;refine t9 k3 λvs na nb XL ea eb k3=>tW (NF g? (.inl ea) H) λoa pa y? ø=>tW (NF r3 (.inr eb) H) λob pb ø y_=>?_
  rw[ea]at y?;rw[eb]at y_;obtain rfl:=gv y?;obtain rfl:=gv y_
  refine t8 (by
   rcases XL with XL | ⟨o,XL⟩
   .exact I3.rep.obj _ _ XL
   ·(refine BV (I3.rep.obj _ _ XL) λg ws n e9 r9=>xA r9 λz r=>?_;subst e9)
    exact(tU ws n g z r):∃ws n,s3.heap.get? l=J ⟨.type "list",sD,.seq ws n,#[]⟩/\ws.size<=2 ^ 25/\sY s3.heap vs ws.toList) λws n g z r=>?_
  have hlen:R vs=ws.size:=by exact r.u8
  have g4:=push _ _ g;have ζ:ws.size<=th:=by have:=k3.1;exact uy [] 0x5204843046530403 H k3.1 hlen
  refine Eh (ti _ g4 H) Ab.lookup (wpAny_getItem_list_slice (st:=sD) (yS _ g4 H n H) (nB ..) pa pb .none (by simp) ?_ ζ) ((λø=>rfl) _);rw[kms_pick_eq];refine((tI.newList (t:=s3.toks) (xs:=(vs.drop (kms_lo oa (R vs))).take (kms_hi ob (R vs) - kms_lo oa (R vs))) I4 ?_ ?_ k3.2).from (.of_keeps push)).from X
  .exact D hlen (tj iR (((r.drop _).take _).mono (.of_keeps push)))
  .exact D jM (D iA (D je (D iR (gA (iT _ _) (gA (kE _ _) z)))))
 | tup vs=>
  cases a with
  | int ia=>
   cases b with
   | none=>
    obtain ⟨h0,h1,h2,k4⟩:=k3;obtain ⟨t,ws,n,rfl,g,z,r⟩:=g!
    (refine xE g? λu e9=>?_;subst e9)
    subst r3;have hlen:R vs=ws.size:=by exact r.u8
    have g4:=push _ _ g
    by_cases e:ia=0
    .subst e;refine Eh ⟨_,g4,H⟩ wB.lookup (Dd g4 (nB ..) ?_) ((λø=>rfl) _);rw[show(0:al).toNat=0 from H,jm]at k4;exact((tI.same (t:=s3.toks) (lv:=f2 vs) I4 (uQ t ws n H g4 z (r.mono (.of_keeps push))) k4).from (.of_keeps push)).from X
    ·(refine xE (⟨ia.toNat,(lR h0).symm⟩ : ∃na:M,ia=na) λna e9=>?_;subst e9)
     refine Eh ⟨_,g4,H⟩ wB.lookup (getItem_tuple_from (a:=na) ⟨_,g4,H,n,H⟩ (nB ..) (kY λh=>e (sJ (λn:M=>(n:al)) h)) (hlen▸jf.mp h1) ?_ (uy [] 0x5204843046530403 H h2 hlen:ws.size<=th)) ((λø=>rfl) _);refine((tI.ç (t:=s3.toks) (xs:=vs.drop na) I4 ?_ ?_ (by exact k4)).from (.of_keeps push)).from X
     .exact(r.drop _).mono (.of_keeps push)
     .exact D jM (D je (D iR (tD [33554432] 0x24090a40800128403 H z (kE _ _))))
   | _=>exact k3.elim
  | _=>exact k3.elim
 | str x=>
  cases a with
  | none=>
   cases b with
   | int j=>
    refine Ea vo g! λt=>?_
    subst (g?:_=_)
    refine Ea vb r3 λu=>t8 (SBH.sliceItem_ns (prog:=C.prog) (w:=C.aH) (A:=A) (E:=wV) (x:=x) (t:=t) (j:=j) (uj:=u) (s:=s3) (P:=λh'=>∀b o,s3.heap.get? b=J o->h'.get? b=J o)
     (Q:=tI C st s K) (λh ob p b o e=>jH _ (p b o e)) (λø ø e=>e) (λh' t' tk p=>(uY (g3 _) ZJ ⟨_,H⟩ (I3.grow p) (X.trans (.of_keeps p)) k3.2)) k3.1) λT id hlk hT hg=>?_
    exact Eh hT hlk hg ((λø=>rfl) _)
   | _=>exact k3.elim
  | _=>exact k3.elim
 | _=>exact k3.elim
end S
open PySem.SeqAt (shaped)
mutual
noncomputable def xC:M->LV->bn
 | _,.none=>pH
 | _,f0 _=>pH
 | _,g3 x=>jI x
 | n+1,f2 vs=>uT n vs
 | _,_=>Zt
noncomputable def uT:M->V LV->bn
 | _,[]=>pH
 | n,x::r=>xC n x&&uT n r
end
mutual
noncomputable def LV.py:LV->w6
 | .none=>.none
 | .bool b=>.bool b
 | .int i=>.int i
 | .str x=>.str x
 | f2 vs=>.tuple (du vs)
 | Y _=>.none
noncomputable def du:V LV->V w6
 | []=>[]
 | x::r=>x.py::du r
end
theorem Ei{n:M}(h:∀x∈vs,∀n,xC n x=pH->x.py.canLay0=pH/\x.py.depth<=n):uT n vs=pH->ot (du vs)=pH/\w6.depthAll (du vs)<=n:=by
 induction vs with
 | nil=>exact λø=>⟨H,gE _⟩
 | cons x r ih=>
  intro e;refine xA (iL.mp e) λa b=>?_
  have h1:=h x gI n a;have h2:=ih (λy hy=>h y (gH _ hy)) b;exact⟨iL.mpr ⟨h1.1,h2.1⟩,Nat.max_le.mpr ⟨h1.2,h2.2⟩⟩
theorem zk(x:LV)(e:xC i x=pH):x.py.canLay0=pH/\x.py.depth<=i:=
 LV.ind (P:=λx=>∀i,xC i x=pH->x.py.canLay0=pH/\x.py.depth<=i) (λø ø=>⟨H,gE _⟩) (λø ø e=>ft e) (λø ø ø=>⟨H,gE _⟩) (λø ø e=>⟨e,gE _⟩)
  (λvs ih i e=>by
   cases i with
   | zero=>exact ft e
   | succ i=>have h:=Ei (n:=i) ih e;exact⟨h.1,jO h.2⟩) (λø ø e=>ft e) x i e
theorem wX(xs:V LV):uT i xs=pH->ot (du xs)=pH/\w6.depthAll (du xs)<=i:=Ei λx ø ø=>zk x
theorem PV:g6 .none .none=pH:=by rw[g6]
theorem Sd(a b:al):g6 (.int a) (.int b)=(a==b):=by rw[g6]
theorem Se(a b:ap):g6 (.str a) (.str b)=(a==b):=by rw[g6]
theorem Sf(a b:V w6):g6 (.tuple a) (.tuple b)=kF a b:=by rw[g6]
theorem KU(a:V w6)(b:al):g6 (.tuple a) (.int b)=Zt:=by rw[g6]
theorem KV(a:V w6)(b:ap):g6 (.tuple a) (.str b)=Zt:=by rw[g6]
theorem Jy(a:V w6):g6 (.tuple a) .none=Zt:=by rw[g6]
theorem KW(a:V w6)(b:al):g6 (.int b) (.tuple a)=Zt:=by rw[g6]
theorem KY(a:V w6)(b:ap):g6 (.str b) (.tuple a)=Zt:=by rw[g6]
theorem Jz(a:V w6):g6 .none (.tuple a)=Zt:=by rw[g6]
theorem JA(b:al):g6 .none (.int b)=Zt:=by rw[g6]
theorem JB(b:ap):g6 .none (.str b)=Zt:=by rw[g6]
theorem JC(b:al):g6 (.int b) .none=Zt:=by rw[g6]
theorem JD(b:ap):g6 (.str b) .none=Zt:=by rw[g6]
theorem KZ(a:al)(b:ap):g6 (.int a) (.str b)=Zt:=by rw[g6]
theorem K0(a:al)(b:ap):g6 (.str b) (.int a)=Zt:=by rw[g6]
theorem Ej{n:M}(h:∀a∈vs,∀(b:LV) (n m:M),xC n a=pH->xC m b=pH->g6 a.py b.py=b8 (a=b)):∀{y:V LV},uT n vs=pH->uT m y=pH->kF (du vs) (du y)=b8 (vs=y):=by
 induction vs with
 | nil=>
  intro y _ _;cases y with
  | nil=>rw[du,kF];exact(sM H).symm
  | cons b q=>rw[du,du,kF];exact(sT (lS _ _).symm).symm
 | cons a r ih=>
  intro y e e';cases y with
  | nil=>rw[du,du,kF];exact(sT (lS _ _)).symm
  | cons b q=>
   refine xA (iL.mp e) λh1 h2=>xA (iL.mp e') λh3 h4=>?_
   (rewrite[du,du,kF];refine D (h a gI b n m h1 h3) (D (ih (λy hy=>h y (gH _ hy)) h2 h4) ?_))
   refine AU jG ?_;simp only[jn,ud,List.cons.injEq]
theorem Hf(x y:LV)(e:xC i x=pH)(e':xC m y=pH):g6 x.py y.py=b8 (x=y):=
 LV.ind (P:=λx=>∀(y:LV) (i m:M),xC i x=pH->xC m y=pH->g6 x.py y.py=b8 (x=y))
  (λy i m ø e'=>by
   cases y with
   | none=>exact PV.trans (sM H).symm
   | int b=>exact(JA b).trans (yt H)
   | str b=>exact(JB b).trans (yt H)
   | tup b=>exact(Jz _).trans (yt H)
   | bool b=>exact ft e'
   | ref b=>exact ft e') (λø ø ø ø e=>ft e)
  (λa y i m ø e'=>by
   cases y with
   | none=>exact(JC a).trans (yt H)
   | int b=>exact(Sd a b).trans (by refine AU jG ?_;simp only[ud,uP,LV.int.injEq])
   | str b=>exact(KZ a b).trans (yt H)
   | tup b=>exact(KW _ a).trans (yt H)
   | bool b=>exact ft e'
   | ref b=>exact ft e')
  (λa y i m ø e'=>by
   cases y with
   | none=>exact(JD a).trans (yt H)
   | int b=>exact(K0 b a).trans (yt H)
   | str b=>exact(Se a b).trans (by refine AU jG ?_;simp only[ud,uP,LV.str.injEq])
   | tup b=>exact(KY _ a).trans (yt H)
   | bool b=>exact ft e'
   | ref b=>exact ft e')
  (λa ih y i m e e'=>by
   cases i with
   | zero=>exact ft e
   | succ i=>cases y with
    | none=>exact(Jy _).trans (yt H)
    | int b=>exact(KU _ b).trans (yt H)
    | str b=>exact(KV _ b).trans (yt H)
    | tup b=>cases m with
     | zero=>exact ft e'
     | succ m=>
      refine(Sf _ _).trans ((Ej (n:=i) (m:=m) ih e e').trans (AU jG ?_));simp only[ud,LV.tup.injEq]
    | bool b=>exact ft e'
    | ref b=>exact ft e') (λø ø ø ø e=>ft e) x y i m e e'
theorem OJ(x y:V LV):uT i x=pH->uT m y=pH->kF (du x) (du y)=b8 (x=y):=Ej λa ø b ø ø=>Hf a b
theorem A2{n m:M}{x:LV}(hx:xC n x=pH):∀(ys:V LV),uT m ys=pH->((du ys).any λy=>g6 y x.py)=b8 (x∈ys)
 | [],_=>by simp[du]
 | y::r,e=>by
  (rewrite[du];refine D List.any_cons (D (Hf y x (iL.mp e).1 hx) (D (A2 hx r (iL.mp e).2) (AU jG ?_))))
  simp only[jo,ud,gX];exact or_congr ⟨ky,ky⟩ Iff.rfl
theorem Cq{n:M}(k:∀x∈fs,∀(n:M) (v:sR),xC n x=pH->tH h x v->∃as,Reads h v x.py as):∀{vs:V sR},uT n fs=pH->sY h fs vs->∃as,ReadsAll h vs (du fs) as:=by
 induction fs with
 | nil=>intro vs _ r;cases vs with | nil=>exact⟨[],.nil⟩ | cons=>exact r.elim
 | cons x r ih=>
  intro vs e q;cases vs with
  | nil=>exact q.elim
  | cons v vs=>
   refine xA (iL.mp e) λh1 h2=>xE (k x gI n v h1 q.1) λas ra=>?_
   exact xE (ih (λy hy=>k y (gH _ hy)) h2 q.2) λbs rb=>⟨_,.cons ra rb⟩
theorem zl(x:LV)(e:xC X x=pH)(r:tH h x vv):∃as,Reads h vv x.py as:=
 LV.ind (P:=λx=>∀(X:M) (vv:sR),xC X x=pH->tH h x vv->∃as,Reads h vv x.py as) (λX vv ø r=>D (show vv=.none from r) ⟨_,.none⟩) (λø ø ø e=>ft e) (λi X vv ø r=>eN vv r λt=>⟨_,.int i t⟩) (λs X vv ø r=>fN vv r λt=>⟨_,.str s t⟩)
  (λvs ih X vv e r=>by
   cases X with
   | zero=>exact ft e
   | succ X=>exact fM vv r λa ws k g ø r=>xE (Cq (n:=X) ih e r) λas q=>⟨_,.tuple g H rfl q⟩) (λø ø ø e=>ft e) x X vv e r
theorem Ad(xs:V LV):uT i xs=pH->sY h xs cN->∃as,ReadsAll h cN (du xs) as:=Cq λx ø ø ø=>zl x
namespace L
noncomputable def eqOp(neg:bn)(a b:LV):LP:=λst K=>match a,b with
 | Y x,Y y=>(match st x,st y with
  | some (f1 xs),J (f1 ys)=>(R xs≠R ys\/(uT 3 xs=pH/\uT 3 ys=pH))/\K (ii (neg != b8 (xs=ys))) st
  | _,_=>uF)
 | a,b=>xC 3 a=pH/\xC 3 b=pH/\K (ii (neg != b8 (a=b))) st
noncomputable def inOp(neg:bn)(x c:LV):LP:=λst K=>match c with
 | f2 ys=>xC 3 x=pH/\uT 3 ys=pH/\K (ii (neg != b8 (x∈ys))) st
 | Y l=>(match st l with
  | some (f1 ys)=>xC 3 x=pH/\uT 3 ys=pH/\K (ii (neg != b8 (x∈ys))) st
  | some (f8 Zy)=>(match x with
   | f0 _=>wu Zy=pH/\K (ii (neg != B6 Zy x)) st
   | f2 ks=>vG Zy=pH/\(Dr ks).isSome=pH/\K (ii (neg != B6 Zy x)) st
   | _=>uF)
  | _=>uF)
 | _=>uF
end L
open _root_.Mine.L renaming eqOp->qk,inOp->ql
theorem fC(k:qk mf v b s K):(∃x y xs ys,v=Y x/\b=Y y/\s x=J (f1 xs)/\s y=J (f1 ys)/\(R xs≠R ys\/(uT 3 xs=pH/\uT 3 ys=pH))/\K (ii (mf != b8 (xs=ys))) s)\/(xC 3 v=pH/\xC 3 b=pH/\K (ii (mf != b8 (v=b))) s):=by
 cases v with
 | ref x=>cases b with
  | ref y=>
   unfold qk at k;dsimp only at k;cases h1:s x with
   | none=>rw[h1]at k;exact k.elim
   | some o=>rw[h1]at k;cases o with
    | list xs=>cases h2:s y with
     | none=>rw[h2]at k;exact k.elim
     | some o=>rw[h2]at k;cases o with
      | list ys=>exact .inl ⟨x,y,xs,ys,H,H,h1,h2,k⟩
      | _=>exact k.elim
    | _=>exact k.elim
  | _=>exact .inr k
 | _=>exact .inr k
theorem fB(k:ql mf b v s K):(∃ys,v=f2 ys/\xC 3 b=pH/\uT 3 ys=pH/\K (ii (mf != b8 (b∈ys))) s)\/∃l,v=Y l/\((∃ys,s l=J (f1 ys)/\xC 3 b=pH/\uT 3 ys=pH/\K (ii (mf != b8 (b∈ys))) s)\/∃Zy,s l=J (f8 Zy)/\((∃i,b=f0 i/\wu Zy=pH/\K (ii (mf != B6 Zy b)) s)\/∃ks,b=f2 ks/\vG Zy=pH/\(Dr ks).isSome=pH/\K (ii (mf != B6 Zy b)) s)):=by
 cases v with
 | tup ys=>exact .inl ⟨ys,H,k⟩
 | ref l=>
  unfold ql at k;dsimp only at k;cases h1:s l with
  | none=>rw[h1]at k;exact k.elim
  | some o=>rw[h1]at k;cases o with
   | list ys=>exact .inr ⟨l,H,.inl ⟨ys,h1,k⟩⟩
   | dict Zy=>cases b with
    | int i=>exact .inr ⟨l,H,.inr ⟨Zy,h1,.inl ⟨i,H,k⟩⟩⟩
    | tup ks=>exact .inr ⟨l,H,.inr ⟨Zy,h1,.inr ⟨ks,H,k⟩⟩⟩
    | _=>exact k.elim
   | _=>exact k.elim
 | _=>exact k.elim
namespace S
set_option tactic.hygienic true in
theorem eqs(n:M)(bi:Rm A n)(neg:bn):zb C A (u7 (if neg then .NotEq else .Eq)) (qk neg):=λa b va vb st s K I ra rb k=>by
 have data:∀{x y:w6} {as bs:V sE},Reads s.heap va x as->Reads s.heap vb y bs->x.canLay0=pH->y.canLay0=pH->x.depth<=64->y.depth<=64->tI C st s K (.bool (neg != g6 x y)) s->
   td C.aw A (u7 (if neg then .NotEq else .Eq) va vb) (tI C st s K) wV s:=λrx ry cx cy dx dy p=>by
  have sx:shaped _=pH:=iL.mpr ⟨cx,sM dx⟩;have sy:shaped _=pH:=iL.mpr ⟨cy,sM dy⟩;cases neg
  .exact eq_dataH rx ry sx sy bi.line (by simpa using p)
  .exact ne_dataH rx ry sx sy bi.line (by simpa using p)
 rcases fC k with ⟨x,y,xs,ys,rfl,rfl,h1,h2,k⟩ | k
 .subst ra rb
  .refine t8 (I.rep.obj _ _ h1) λws n1 g1 z1 r1=>t8 (I.rep.obj _ _ h2) λus n2 g2 z2 r2=>?_
   refine xA k λhc k=>?_
   by_cases hl:R xs=R ys
   .rcases hc with hc | ⟨hx,hy⟩
    .exact(hc hl).elim
    .refine xE (Ad xs hx r1) λas qx=>xE (Ad ys hy r2) λbs qy=>?_
     refine data (.list g1 H rfl qx) (.list g2 H rfl qy) (by exact(wX xs hx).1) (by exact(wX ys hy).1) (by exact tY [3,1,64] 0x41084800900120402 H (wX xs hx).2) (by exact tY [3,1,64] 0x41084800900120402 H (wX ys hy).2) (D (show g6 (.list (du xs)) (.list (du ys))=b8 (xs=ys) by rw[g6];exact OJ xs ys hx hy) ?_);exact .bool (tk:=s.toks) I k
   .have hz:(ws.size != us.size)=pH:=by
     have a1:R xs=ws.size:=by exact r1.u8
     have a2:R ys=us.size:=by exact r2.u8
     lia
    rw[(sT λe=>hl (D e H):decide (xs=ys)=Zt)]at k;cases neg
    .exact SeqAt.RcAt.lists_lengths (yS _ g1 H n1 H) (yS _ g2 H n2 H) hz (tD [64] 0x290252802400422 H bi.line) C.prog C.aH wV _ (.bool (tk:=s.toks) I k)
    .exact SeqAt.RcNeAt.lists_lengths (yS _ g1 H n1 H) (yS _ g2 H n2 H) hz (tD [64] 0x290252802400422 H bi.line) C.prog C.aH wV _ (.bool (tk:=s.toks) I k)
 .refine zY k λhx hy k=>xE (zl a hx ra) λas qx=>?_
  refine xE (zl b hy rb) λbs qy=>?_
  refine data qx qy (zk a hx).1 (zk b hy).1 (tY [3,64] 0x4240900120402 H (zk a hx).2) (tY [3,64] 0x4240900120402 H (zk b hy).2) (D (Hf a b hx hy) ?_);exact .bool (tk:=s.toks) I k
theorem eq(n:M)(bi:Rm A n):zb C A (u7 .Eq) (qk Zt):=eqs n bi Zt
theorem ne(n:M)(bi:Rm A n):zb C A (u7 .NotEq) (qk pH):=eqs n bi pH
theorem ģ(hu:i+64<t)(hm:m<=3):i+1+m<t:=lT (ou (gA hm (show 3<=63 by decide)) _) hu
set_option tactic.hygienic true in
theorem ins(n:M)(bi:Rm A n)(neg:bn):zb C A (u7 (if neg then .NotIn else .In)) (ql neg):=λa b va vb st s K I ra rb k=>by
 have hu:A.units+64<Gd:=bi.line
 rcases fB k with ⟨ys,rfl,k⟩ | ⟨l,rfl,⟨ys,hl,k⟩ | ⟨Zy,hl,⟨i,rfl,k⟩ | ⟨js,rfl,k⟩⟩⟩
 .refine zY k λhx hy k=>xE (zl a hx ra) λas qx=>?_
  (refine t9 rb λt ws n1 e9 g z r=>?_;subst e9)
  refine xE (Ad ys hy r) λbs qy=>?_
  have lx:=zk a hx;cases neg
  .exact SeqAt.in_tuple_reads (.tuple g H rfl qy) qx (wX ys hy).1 lx.1 (ģ hu (gA (iT _ _) lx.2)) (D (A2 hx ys hy) (.bool (tk:=s.toks) I (by simpa using k)))
  .exact SeqAt.notIn_tuple_reads (.tuple g H rfl qy) qx (wX ys hy).1 lx.1 (ģ hu (gA (iT _ _) lx.2)) (D (A2 hx ys hy) (.bool (tk:=s.toks) I (by simpa using k)))
 .subst (rb:_=_)
  .refine zY k λhx hy k=>xE (zl a hx ra) λas qx=>?_
   refine t8 (I.rep.obj _ _ hl) λws n1 g z r=>xE (Ad ys hy r) λbs qy=>?_
   have lx:=zk a hx;cases neg
   .exact SeqAt.in_list_reads (.list g H rfl qy) qx (wX ys hy).1 lx.1 (ģ hu (gA (iT _ _) lx.2)) (D (A2 hx ys hy) (.bool (tk:=s.toks) I (by simpa using k)))
   .exact SeqAt.notIn_list_reads (.list g H rfl qy) qx (wX ys hy).1 lx.1 (ģ hu (gA (iT _ _) lx.2)) (D (A2 hx ys hy) (.bool (tk:=s.toks) I (by simpa using k)))
 .subst (rb:_=_)
  .have lo:=DC C I (.inl ⟨_,hl⟩)
   .refine s9 ((I.rep.obj _ _ hl).â k.1) λks hd r=>Ea va ra λt=>?_
    have e:(GZ ks i).isSome=B6 Zy (f0 i):=(C3 (i:=i) r).has;cases neg
    .exact wpAny_in_of (knd:=vt C.prog C.aH) (k:=i) (by simp[vt,jF]) lo hd.mapOf (D e (.bool I (by simpa using k.2)))
    .exact wpAny_notIn_of (knd:=vt C.prog C.aH) (k:=i) (by simp[vt,jF]) lo hd.mapOf (D e (.bool I (by simpa using k.2)))
 .subst (rb:_=_)
  .have lo:=DC C I (.inl ⟨_,hl⟩)
   .refine zY k λh1 h2 k=>xE (j5.mp h2) λks e=>?_
    have e:=KR e;subst e;refine s9 ((I.rep.obj _ _ hl).á h1) λxs hd r=>?_
    (refine s9 (Ff (prog:=C.prog) (w:=C.aH) ra) λt e9 wl=>?_;subst e9)
    have e:(Hd xs ks).isSome=B6 Zy (f2 (ks.map LA.lv)):=(A1 (k:=ks) r).has;cases neg
    .exact wpAny_in_heap (knd:=t5 (tZ C.prog C.aH)) (tD [64,1] 0x1421200252802400422 H hu) wl lo hd (D e (.bool I (by simpa using k)))
    .exact wpAny_notIn_heap (knd:=t5 (tZ C.prog C.aH)) (tD [64,1] 0x1421200252802400422 H hu) wl lo hd (D e (.bool I (by simpa using k)))
theorem isIn(n:M)(bi:Rm A n):zb C A (u7 .In) (ql Zt):=ins n bi Zt
theorem X?(n:M)(bi:Rm A n):zb C A (u7 .NotIn) (ql pH):=ins n bi pH
theorem isNone(h:tA C A env Zw (eval ea env) e) :
  wA C A env Zw (uD (.Compare ea [.Is] [.Constant .none k p1] pos) env ej) (pX (λa ø=>qg a) e (pG .none)):=λρ st s K I F kk=>by
 refine xt (vf (h ρ st s _ I F kk) λva s1 a ZK r1 I1 x1 k1=>(sO (is_none_gen ?_)));exact D r1.h_ (vg (tC ZK I1 x1 k1))
theorem isNotNone(h:tA C A env Zw (eval ea env) e) :
  wA C A env Zw (uD (.Compare ea [.IsNot] [.Constant .none k p1] pos) env ej) (pX (λa ø=>qh a) e (pG .none)):=λρ st s K I F kk=>by
 refine xt (vf (h ρ st s _ I F kk) λva s1 a ZK r1 I1 x1 k1=>(sO (isnot_none_gen ?_)));exact D r1.h_ (vg (tC ZK I1 x1 k1))
end S
noncomputable def PW(h:ds):Uq->Flow->Prop
 | .next,f=>f=.next
 | .brk,f=>f=.brk
 | .cont,f=>f=.cont
 | .ret lv,f=>∃v,f=.ret v/\tH h lv v
noncomputable def BX(C:Cx)(env:dL)(nm:V (sF ap))(st:LH)(s:s8)(K:Uq->uZ->LH->Prop)(f:Flow)(s':s8):Prop:=
 ∃fl em E,PW s'.heap fl f/\tV C E s'/\tG C env nm em E s'.heap/\vV (FA env) st s.heap E s'.heap/\K fl em E
noncomputable def v8(C:Cx)(A:vy)(env:dL)(nm:V (sF ap))(t:Sem Flow)(m:LS):Prop:=
 (∀x,env.kindOf x≠J .free)->∀ρ st s K,tV C st s->tG C env nm ρ st s.heap->m ρ st K->td C.aw A t (BX C env nm st s K) wV s
theorem wi(x:vV F0 s h E h'):vV Fa s h E h':=x.mono λø f=>f.elim
theorem wC{α:Type}{be:Model}{t:Sem α}{Q:α->s8->Prop}(h:td be A t Q wV s'):td be A t Q am s':=uB h (λø ø q=>q) λø ø e=>e.elim
noncomputable abbrev KS:=Uq->uZ->LH->Prop
variable {K' K1 TW Kb:KS}
noncomputable def ue(I:uZ->LH->Prop)(K:KS):KS:=λfl ρ st=>match fl with | .next=>I ρ st | .cont=>I ρ st | .brk=>K .next ρ st | .ret v=>K (.ret v) ρ st
noncomputable def A3(b:LS)(K:KS):KS:=λfl ρ st=>match fl with | .next=>b ρ st K | fl=>K fl ρ st
noncomputable def tB(K:LV->LH->Prop):KS:=λfl ø st=>match fl with | .ret v=>K v st | .next=>K .none st | _=>uF
namespace L
noncomputable def done:LS:=λρ st K=>K .next ρ st
noncomputable def seq(a b:LS):LS:=λρ st K=>a ρ st (A3 b K)
noncomputable def asg(i:M)(e:LE):LS:=λρ st K=>e ρ st λv s1=>K .next (ρ.set i (J v)) s1
noncomputable def exp(e:LE):LS:=λρ st K=>e ρ st λø s1=>K .next ρ s1
noncomputable def ret(e:LE):LS:=λρ st K=>e ρ st λv s1=>K (.ret v) ρ s1
noncomputable def brk:LS:=λρ st K=>K .brk ρ st
noncomputable def cont:LS:=λρ st K=>K .cont ρ st
noncomputable def ite(c:LB)(a b:LS):LS:=λρ st K=>c ρ st λt s1=>if t then a ρ s1 K else b ρ s1 K
noncomputable def è(c:LB)(b:LS):M->LS
 | 0=>λø ø ø=>uF
 | n+1=>λρ st K=>c ρ st λt s1=>if t then b ρ s1 (ue (λem E=>è c b n em E K) K) else K .next ρ s1
noncomputable def whl(c:LB)(b:LS):LS:=λρ st K=>∃n,è c b n ρ st K
end L
open _root_.Mine.L renaming done->qm,seq->qo,asg->qp,exp->qr,ret->qt,cont->qu,ite->qv,whl->qw
theorem BX.from{K:Uq->uZ->LH->Prop}{f:Flow}(x:vV (FA env) ZJ s3.heap ZK s1.heap)(p:BX C env Zw ZK s1 K f s'):BX C env Zw ZJ s3 K f s':=
 vz p λfl em E r I F y k=>⟨fl,em,E,r,I,F,x.trans y,k⟩
theorem PX{t:Sem Flow}{K:Uq->uZ->LH->Prop}{Q:Flow->s8->Prop}(h:td C.aw A t (BX C env Zw ZJ s3 K) wV s3)(g:∀f s' fl em E,PW s'.heap fl f->tV C E s'->tG C env Zw em E s'.heap->vV (FA env) ZJ s3.heap E s'.heap->K fl em E->Q f s'):td C.aw A t Q wV s3:=
 uB h (λf s' p=>vz p λa b c d e i j k=>g f s' a b c d e i j k) λø ø e=>e
theorem MF{t:Sem Flow}{K:Uq->uZ->LH->Prop}(h:td C.aw A t (BX C env Zw ZK s1 K) wV s1)(x:vV (FA env) E s'.heap ZK s1.heap):td C.aw A t (BX C env Zw E s' K) wV s1:=uB h (λø ø p=>p.from x) λø ø e=>e
namespace S
theorem done:v8 C A env Zw (BY [] env) qm:=λø ρ st ø ø I F k=>BZ (tq .next ρ st H I F (.refl ..) k)
theorem seq{x:Stmt}{rest:V Stmt}{a b:LS}(h:v8 C A env Zw (exec x env) a)(hr:v8 C A env Zw (BY rest env) b):v8 C A env Zw (BY (x::rest) env) (qo a b):=λnf ρ st s K I F k=>by
 refine wpAny_execs_cons (PX (h nf ρ st s _ I F k) λf s1 fl jp ZK r1 I1 F1 x1 k1=>?_);cases fl with
 | next=>subst r1;exact MF (hr nf jp ZK s1 K I1 F1 k1) x1
 | brk=>subst r1;exact(tq .brk jp ZK H I1 F1 x1 k1)
 | cont=>subst r1;exact(tq .cont jp ZK H I1 F1 x1 k1)
 | ret v=>(refine s9 r1 λw e9 r=>?_;subst e9);exact(tq (.ret v) jp ZK (ti w H r) I1 F1 x1 k1)
theorem asg(hn:Zw[i]?=J (J nl))(h:tA C A env Zw (eval ea env) mo)(hs:vO ea (J (.Name nl p1)) pos.line env=pure Zt) :
  v8 C A env Zw (exec (.Assign [.Name nl p1] ea pos) env) (qp i mo):=λnf ρ st s K I F k=>by
 refine wpAny_Assign_Name (vf (h ρ st s _ I F k) λv s1 lv ZK r1 I1 x1 k1=>?_) hs;exact(F.ext I x1).store I1 nf hn r1 λs2 I2 F2 x2=>(tq .next _ ZK H I2 F2 ((wi x1).trans (x2.mono λø f=>f.fa)) k1)
theorem exp(h:tA C A env Zw (eval ea env) mo)(hi:Ae env=Zt)(hs:vO ea sD pos.line env=pure Zt) :
  v8 C A env Zw (exec (.Expr ea pos) env) (qr mo):=λø ρ st s K I F k=>
 wpAny_Expr_any (vf (h ρ st s _ I F k) λø ø ø ZK ø I1 x1 k1=>(tq .next ρ ZK H I1 (F.ext I x1) (wi x1) k1)) hi hs
theorem ret{e:bm}(h:tA C A env Zw (eval e env) mo):v8 C A env Zw (exec (.Return (J e) pos) env) (qt mo):=λø ρ st s K I F k=>
 wpAny_Return_some (vf (h ρ st s _ I F k) λv ø lv ZK r1 I1 x1 k1=>(tq (.ret lv) ρ ZK (ti v H r1) I1 (F.ext I x1) (wi x1) k1))
theorem brk:v8 C A env Zw (exec (.Break pos) env) L.brk:=λø ρ st ø ø I F k=>wpAny_Break (tq .brk ρ st H I F (.refl ..) k)
theorem cont:v8 C A env Zw (exec (.Continue pos) env) qu:=λø ρ st ø ø I F k=>wpAny_Continue (tq .cont ρ st H I F (.refl ..) k)
theorem ite{b o:V Stmt}(hc:wA C A env Zw (uD ea env (eval ea env)) mc)(hb:v8 C A env Zw (BY b env) bb)(ho:v8 C A env Zw (BY o env) EQ) :
  v8 C A env Zw (exec (.If ea b o pos) env) (qv mc bb EQ):=λnf ρ st s K I F k=>by
 refine wpAny_If (Jv (hc ρ st s _ I F k) λt s1 ZK I1 x1 k1=>?_);cases t
 .exact MF (ho nf ρ ZK s1 K I1 (F.ext I x1) k1) (wi x1)
 .exact MF (hb nf ρ ZK s1 K I1 (F.ext I x1) k1) (wi x1)
theorem whl{c:bm}{b:V Stmt}{pos:Pos}{mc:LB}{mb:LS}(hc:wA C A env Zw (uD c env (eval c env)) mc)(hb:v8 C A env Zw (BY b env) mb) :
  v8 C A env Zw (exec (.While c b [] pos) env) (qw mc mb):=λnf ρ st s K I F k=>by
 refine xE k λn k=>wpAny_While (codeAny_whileLoop (λn s1=>∃jp ZK,tV C ZK s1/\tG C env Zw jp ZK s1.heap/\vV (FA env) st s.heap ZK s1.heap/\L.è mc mb n jp ZK K) ?_ n (uY ρ st I F (.refl ..) k))
 rintro n s1 ⟨jp,ZK,I1,F1,x1,k1⟩
 cases n with
 | zero=>exact k1.elim
 | succ n=>
  refine wC (Jv (hc jp ZK s1 _ I1 F1 k1) λt s2 ZV I2 x2 k2=>?_);have X2:=x1.trans (wi x2);cases t with
  | false=>exact wC (BZ (tq .next jp ZV H I2 (F1.ext I1 x2) X2 k2))
  | true=>
   refine wC (PX (hb nf jp ZV s2 _ I2 (F1.ext I1 x2) k2) λf s3 fl io ZJ r3 I3 F3 x3 k3=>?_);have X3:=X2.trans x3;cases fl with
   | next=>subst r3;exact(Ir n (iC n) io (wU ZJ I3 F3 X3 k3))
   | cont=>subst r3;exact(Ir n (iC n) io (wU ZJ I3 F3 X3 k3))
   | brk=>subst r3;exact(tq .next io ZJ H I3 F3 X3 k3)
   | ret v=>(refine s9 r3 λw e9 r=>?_;subst e9);exact(tq (.ret v) io ZJ (ti w H r) I3 F3 X3 k3)
end S
noncomputable def WM(C:Cx)(st:LH)(s:s8)(K:LV->LH->Prop)(r:Result)(s':s8):Prop:=∃v,r=.ok (.ret v)/\tI C st s K v s'
noncomputable def B7(C:Cx)(n:M)(f:sR)(fn:V LV->LP):Prop:=
 ∀A as vs st s K,Rm A n->tV C st s->sY s.heap as vs->fn as st K->Ek C.aw A (.call f ⟨vs,[]⟩) (WM C st s K) s
namespace L
noncomputable def run(k:M)(dflt:V LV)(rest:M)(body:LS)(as:V LV):LP:=λst K=>
 as.length=k/\body ((as++dflt).map J++hU rest sD) st (tB K)
end L
open _root_.Mine.L renaming run->qz
noncomputable def El(scope:ye)(nm:V (sF ap)):bn:=
 scope.kind==.function&&!scope.isCoroutine&&!scope.isGenerator&&scope.names.all (λx=>x.2 != .free)&&
 nm.all (λo=>match o with
  | some x=>(scope.names.lookup x==J .local||(scope.names.lookup x==J .cell))&&!(x==("__debug__" : ap))&&!(x==("__classdict__" : ap))
  | none=>Zt)&&decide nm.Nodup&&decide (((cellsFrom 0 scope.names []).map (·.1)).Nodup)
theorem OK{kind:ap->sF tM}(hk:kind nl=J .local)(binds:V (ap×sR)):∀(m:ap->sF sR),(binds.map (·.1)).Nodup->((nl,vv)∈binds\/(nl∉binds.map (·.1)/\m nl=J vv))->bindL kind binds m nl=J vv:=by
 induction binds with
 | nil=>exact λm ø h=>h.elim uG kZ
 | cons p r ih=>
  intro m hn h;obtain ⟨n,u⟩:=p;refine xA (iK.mp hn) λh1 h2=>ih _ h2 (h.elim (λh=>(gX.mp h).elim (λh=>?_) .inl) λh=>.inr ⟨λq=>h.1 (gH _ q),?_⟩)
  ·(refine xA (iX h) λe8 e9=>?_;subst e8;refine D e9.symm ?_)
   exact .inr ⟨h1,by rw[sI hk,sI H]⟩
  .by_cases q:kind n=J .local
   .exact D (sI q) ((sH (λe=>h.1 (gX.mpr (.inl e)))).trans h.2)
   .exact D (sH q) h.2
theorem OM{kind:ap->sF tM}(hk:kind nl≠J .local)(binds:V (ap×sR)):∀(m:ap->sF sR),(binds.map (·.1)).Nodup->((nl,vv)∈binds\/(nl∉binds.map (·.1)/\m nl=J vv))->bindC kind binds m nl=J vv:=by
 induction binds with
 | nil=>exact λm ø h=>h.elim uG kZ
 | cons p r ih=>
  intro m hn h;obtain ⟨n,u⟩:=p;refine xA (iK.mp hn) λh1 h2=>ih _ h2 (h.elim (λh=>(gX.mp h).elim (λh=>?_) .inl) λh=>.inr ⟨λq=>h.1 (gH _ q),?_⟩)
  ·(refine xA (iX h) λe8 e9=>?_;subst e8;refine D e9.symm ?_)
   exact .inr ⟨h1,by rw[sH hk,sI H]⟩
  .by_cases q:kind n=J .local
   .exact D (sI q) h.2
   .exact D (sH q) ((sH (λe=>h.1 (gX.mpr (.inl e)):nl≠n)).trans h.2)
theorem wD{α:Type}{l:V (ap×α)}{a:α}(e:l.lookup nl=J a):(nl,a)∈l:=by
 induction l with
 | nil=>exact uH e
 | cons p r ih=>
  rw[kG]at e;cases q:nl==p.1 with
  | true=>rw[q]at e;refine tj (gv e) ?_;exact D (uP.mp q) gI
  | false=>rw[q]at e;exact gH _ (ih e)
theorem PY{α:Type}{l:V (ap×sE)}(h:l.Pairwise λnl name=>nl.2≠name.2)(hx:l.lookup nl=J c)(hy:l.lookup name=J c):nl=name:=by
 have mx:=wD hx;have my:=wD hy
 induction l with
 | nil=>cases mx
 | cons p r ih=>
  refine xA (jP.mp h) λh1 h2=>?_
  rcases gX.mp mx with e | e<;>rcases gX.mp my with e' | e'
  .rw[<- e]at e';exact(iX e').1.symm
  .subst e;exact(h1 _ e' H).elim
  .subst e';exact(h1 _ e H).elim
  .rw[kG]at hx hy
   have n1:(nl==p.1)=Zt:=by
    cases q:nl==p.1 with
    | false=>rfl
    | true=>rw[q]at hx;obtain rfl:=gv hx;exact(h1 _ e H).elim
   have n2:(name==p.1)=Zt:=by
    cases q:name==p.1 with
    | false=>rfl
    | true=>rw[q]at hy;obtain rfl:=gv hy;exact(h1 _ e' H).elim
   rw[n1]at hx;rw[n2]at hy;exact ih h2 hx hy e e'
theorem JE(e:R ZD=R cN):(ZD.zip cN).map (·.1)=ZD:=List.map_fst_zip (i5 e)
theorem B7.mk{fd:A4}{od:sF sE}{Ç:uX (sF sR)}{body:V Stmt}
  (hK:C.aI.lookup f=J ⟨vv,od,.func fd,Ç⟩) (þ:codeIn C.aI fd.code fd.qualname=pH) (hb:fd.body=.stmts body) (hg:fd.globals=sV) (WP:fd.builtins=tO) (lq:fd.closure=[])
  (SL:R ZD=k+R fs) (hls:R cD=X) (ZQ:El fd.scope ((ZD++cD).map J)=pH)
  (à:∀(s:s8) (vs:V sR),(∀b o,C.h0.get? b=J o->s.heap.get? b=J o)->R vs=k->∃dv,sY s.heap fs dv/\BindsTo s fd ⟨vs,[]⟩ (ZD.zip (vs++dv)))
  (ō:∀A env,Rm A t->env.scope=fd.scope->env.globals=sV->env.builtins=tO->Ae env=Zt->v8 C A env ((ZD++cD).map J) (BY body env) EQ) :
  B7 C (t+1) (.ref f) (qz k fs X EQ):=λA as vs st s K bi I r kk=>by
 have ď:R vs=k:=tj r.u8 kk.1;refine s9 (à s vs I.base ď) λdv rd hbd=>?_
 simp only[El,jn,uP,j6,i9,ud]at ZQ;obtain ⟨⟨⟨⟨⟨⟨up,Os⟩,hk3⟩,hnf⟩,KF⟩,Ĉ⟩,E_⟩:=ZQ;have H1:=JE (D gK (D ď (tj rd.u8 (SL))):R ZD=R (vs++dv))
 have q?:∀(i:M) (x:ap),((ZD++cD).map J)[i]?=J (J x)->(fd.scope.names.lookup x=J .local\/fd.scope.names.lookup x=J .cell)/\(x==("__debug__" : ap))=Zt/\(x==("__classdict__" : ap))=Zt:=λi x e=>by
  have:=KF _ (gz e)
  simpa [and_assoc] using this
 have ago:=λx hx=>by
  have:=KF (J x) (gL.mpr (ti x (gV _ hx) H));have this:=by simpa [and_assoc] using this
  exact this.1
 have Ċ:=by
  have:(ZD++cD).Nodup:=ox J (λa b h e=>h (D e H)) Ĉ;exact(iP.mp this).1
 refine codeAny_call_function bi.room (I.wf _ _ hK) H Os hk3 hb (codeRec_of I.wf þ) (hbd _ _ _ _ (D lq (wpAny_newFunctionEnv_cells up (λx hx=>?_) λenv he s1 x=>?_)))
 .rcases ago _ (tj H1 (iD hx):x.1∈ZD) with h | h
  .exact .inl h
  .exact .inr ⟨h,Cr _ _ _ (.inl h)⟩
 .subst he;refine⟨(I.lim.keeps x.toInCall.keep),codeAny_func ?_⟩
  (refine vX x.done λh1 tk e9 hk=>?_;subst e9)
  have fresh:∀b,FA (newEnv fd.scope s.heap.objs.size fd.globals (cellsFrom (s.heap.objs.size+1) fd.scope.names []) (fd.qualname++".<locals>.") (J f) fd.code sD fd.builtins) b->s.heap.objs.size<=b:=λb hb=>by
   rcases hb with rfl | ⟨y,hy⟩
   .exact gC _
   .exact iG (x.above y b (wD hy))
  have off:∀b,s.heap.objs.size<=b->s.heap.get? b=sD:=λb hb=>by
   cases q:s.heap.get? b with
   | none=>rfl
   | some o=>exact(iV _ (ij (i7 q) hb)).elim
  have val:∀(i:M) (y:ap) (lv:LV),((ZD++cD).map J)[i]?=J (J y)->((as++fs).map J++hU X sD)[i]?=J (J lv)->∃v,(y,v)∈ZD.zip (vs++dv)/\tH h1 lv v:=λi y lv e1 e2=>by
   by_cases hi:i<R (as++fs)
   .rw[hV (D (gy _) hi),gG]at e2;refine s9 (gR.mp e2) λw hw hw2=>?_
    refine tj (gv hw2) ?_;refine s9 (((r.append rd).mono (.of_keeps hk:tK s.heap h1)).get hw) λv hv rv=>?_
    rw[gG,hV (by exact uy [] 0x5204a62042530443 H (D gK (D kk.1 (D SL H)):R (as++fs)=R ZD) hi)]at e1;refine s9 (gR.mp e1) λz hz Ã=>?_
    refine tj (gv Ã) ?_;exact(ti v (gz (i:=i) (by refine AU (nE) ?_;exact⟨hz,hv⟩)) rv)
   .rw[il (by exact D (gy _) (tD [] 0x520484284a2 H hi)),nF]at e2
    split at e2<;>cases e2
  refine wC (PX (ō (A.deeper _) _ ⟨bi.hd,by have:=bi.bC;refine ?_;exact tD [3,1,990] 0x2094020848000482084250004400402 H this,by have:=bi.un;exact(tD [10,1,9000,3] 0x2094021848000482084250004400402 H this)⟩ H hg WP (by refine(?_:(fd.scope.kind==.module&&_)=Zt);exact D up H)
   (λy e=>by
    have:=hnf _ (wD e);simp at this) ((as++fs).map J++hU X sD) st _ _ (I.grow hk:tV C st {s with heap:=h1,toks:=tk}) ⟨up,hg,WP,?_,?_,?_,?_,?_,?_,?_,?_,?_,?_⟩ kk.2) λfl s2 fl' ρ2 ZV r2 I2 F2 x2 k2=>?_)
  .exact λi y e=>zY (q? i y e) λa b c=>(uS (a.imp id .inl) b c)
  .exact(ti _ x.toInCall.ns (λi y lv e1 e2 hl=>(s9 (val i y lv e1 e2) λv hm rv=>(ti v (OK hl _ _ (D H1 Ċ) (.inl hm)) rv))))
  .refine λi y lv e1 e2 hl=>s9 (val i y lv e1 e2) λv hm rv=>?_
   have Ĺ:fd.scope.names.lookup y=J .cell:=by
    rcases (q? i y e1).1 with h | h
    .rcases hl with q | q<;>exact absurd (h.symm.trans q) (by decide)
    .exact h
   refine xE (j5.mp (Cr fd.scope.names (s.heap.objs.size+1) [] (.inl Ĺ))) λc hc=>?_
   have:=x.cell y c hc;rw[OM (λq=>absurd (Ĺ.symm.trans q) (by decide):(newEnv fd.scope s.heap.objs.size fd.globals (cellsFrom (s.heap.objs.size+1) fd.scope.names []) (fd.qualname++".<locals>.") (J f) fd.code sD fd.builtins).kindOf y≠J .local) _ _ (D H1 Ċ) (.inl hm)]at this;exact(tU c v hc this rv)
  .exact λi y e hl=>xE (j5.mp (Cr fd.scope.names (s.heap.objs.size+1) [] (.inl hl))) λc hc=>(w1 c _ hc (x.cell y c hc))
  .exact λy z c hy hz=>PY (α:=M) x.apart hy hz
  .exact λy c hy=>j8 (x.above y c (wD hy))
  .rintro b (rfl | ⟨y,hy⟩)
   .exact w5 x.toInCall.ns λo es ep e d ø=>(ti o e (λws t q=>by rw[d]at q;exact(sN j0 q).elim))
   .exact s9 (x.cell y b hy) λo e d=>(ti o e (λws t q=>by rw[d]at q;exact(sN j0 q).elim))
  .exact λb hb o=>iV _ (ij (I.lt o) (fresh b hb))
  .exact λb hb=>I.off (fresh b hb)
  .exact λi j y e1 e2=>(jq (gB.mp e1).1 Ĉ).mp (e1.trans e2.symm)
  .have X2:vV F0 st s.heap ZV s2.heap:=⟨λb o e no ø=>x2.keep b o (hk b o e) no (λhf=>by rw[off b (fresh b hf)]at e;exact uH e),λb ow=>(x2.new b ow).imp id λe=>(.of_keeps hk:vV F0 st s.heap st h1).live b e,λb e=>(.of_keeps hk:vV F0 st s.heap st h1).live b (x2.live b e)⟩;cases fl' with
   | next=>subst r2;exact(Ir _ H .none (wU ZV H I2 X2 k2))
   | ret lv=>(refine s9 r2 λw e9 rw=>?_;refine D e9 ?_);exact(Ir _ H lv (wU ZV rw I2 X2 k2))
   | brk=>exact k2.elim
   | cont=>exact k2.elim
section
open PySem PySem.W PySem.Calls PyProof.Rows Builtin Builtin.ObjectAttr
noncomputable def vC(names:V ap)(x:ap):sF M:=names.findIdx? (·==x)
theorem PZ:vC (nl::ZD) nl=J 0:=by unfold vC;exact D oy (sI (tJ nl))
theorem P0(q:nl≠name):vC (nl::ZD) name=(vC ZD name).map (· + 1):=by
 unfold vC;exact D oy (sH λh=>q (uP.mp h))
theorem Hg{e:uo}{t:Tok}(hk:e.key=.str nl t):e.refKey=Zt:=by
 cases e;dsimp only at hk;subst hk;rfl
theorem NG{e:uo}{t:Tok}(hk:e.key=.str nl t):e.key.isStr nl=pH:=D hk (tJ nl)
theorem NH{e:uo}{t:Tok}(q:nl≠name)(hk:e.key=.str nl t):e.key.isStr name=Zt:=D hk (beq_eq_false_iff_ne.mpr q)
theorem NI{x:ap}{es:V uo}(r:vM h ZD fs es):∃o,getL x es=J o/\OR (tH h) ((vC ZD x).bind λi=>fs[i]?) o:=
 vM.ind (P:=λZD fs es=>∃o,getL x es=J o/\OR (tH h) ((vC ZD x).bind λi=>fs[i]?) o) (λns=>ti sD H (by cases vC ns x<;>rfl)) (λn ns y ys e es hk hv ø ih=>xE hk λt hk=>by
  by_cases q:n=x
  .refine tj q ?_;refine ti (J e.val) ?_ (D PZ ⟨e.val,H,hv⟩);unfold getL;exact D (kC (p:=λe:uo=>e.key.isStr n) (NG hk)) H
  .refine s9 ih λo g r=>ti o (g▸?_) (D (P0 q) ?_)
   .unfold getL;exact D (jN (p:=λe:uo=>e.key.isStr x) (kX.mp (NH q hk))) (D List.any_cons (D (Hg hk) H))
   .cases hi:vC ns x with
    | none=>rw[hi]at r;exact r
    | some i=>rw[hi]at r;exact r) r
theorem IT{es:V uo}(r:vM h ZD fs es):R fs=R es/\R fs<=R ZD:=
 vM.ind (P:=λZD fs es=>R fs=R es/\R fs<=R ZD) (λø=>⟨H,gE _⟩) (λø ø ø ø ø ø ø ø ø ih=>⟨sJ lN ih.1,jO ih.2⟩) r
theorem MG{es:V uo}(r:vM h ZD fs es):∀e∈es,e.refKey=Zt:=
 vM.ind (P:=λø ø es=>∀e∈es,e.refKey=Zt) (λø ø=>uG) (λø ø ø ø ø ø hk ø ø ih x hx=>(gX.mp hx).elim (λe=>xE hk λø hk=>Hg (e▸hk)) (ih x)) r
noncomputable def Cs(fs:V LV)(i:M)(v:LV):V LV:=if i<R fs then fs.set i v else fs++[v]
theorem Sg:Cs (b::ys) (j+1) v=b::Cs ys j v:=by
 unfold Cs
 by_cases z:j<R ys
 .exact D (sI z) (D (sI (Nat.succ_lt_succ z)) H)
 .exact D (sH z) (D (sH λh=>z (oz h)) H)
theorem ON{t:Tok}(rv:tH h b vv){es:V uo}(r:vM h ZD fs es):vC ZD nl=J i->i<=R fs->
  vM h ZD (Cs fs i b) (putL nl hs (.str nl t) vv es):=
 vM.ind (P:=λZD fs es=>∀i,vC ZD nl=J i->i<=R fs->vM h ZD (Cs fs i b) (putL nl hs (.str nl t) vv es)) (λns i hi hl=>by
  cases ns with
  | nil=>exact uH hi
  | cons n ns=>
   by_cases q:n=nl
   .subst q;rw[PZ]at hi;refine D (gv hi) ?_;exact uS ⟨t,H⟩ rv (vM.nil ns)
   .rw[P0 q]at hi;refine s9 (gR.mp hi) λj ø e=>?_
    subst e;exact absurd hl (oA j)) (λn ns y ys e es hk hv hr ih i hi hl=>xE hk λu hk=>by
  by_cases q:n=nl
  .obtain rfl:=q.symm;rw[PZ]at hi;refine tj (gv hi) ?_;unfold putL;exact D (sI (NG hk)) ⟨⟨u,hk⟩,rv,hr⟩
  .rw[P0 q]at hi;refine s9 (gR.mp hi) λj hj e=>?_
   subst e;unfold putL;exact D (sH (kX.mp (NH q hk))) (D Sg ⟨⟨u,hk⟩,hv,ih j hj (oB hl)⟩)) r i
noncomputable def Fg(K:Frag)(c:sE)(x:ap):bn:=plainGet K c x&&hasDictIn K c&&(match Hh K (.ref c) x with | some a=>noGet K a | none=>Zt)
noncomputable def MH(K:Frag)(c:sE)(x:ap)(f:sE):bn:=plainGet K c x&&(Hh K (.ref c) x==J (J (.ref f)))&&(typeIn K (.ref f)==J (.type "function"))
noncomputable def A5(K:Frag)(c:sE)(x:ap):bn:=(Hh K (.ref c) "__setattr__"==J (J (.builtin "object.__setattr__")))&&plainOver K c&&(takerIn K c x==J sD)&&hasDictIn K c
namespace L
noncomputable def getA(c:sE)(i:M)(o:LV):LP:=λst K=>∃l d fs v,o=Y l/\st l=J (f4 c d fs)/\fs[i]?=J v/\K v st
noncomputable def Zx(c:sE)(i:M)(o:LE):LE:=λρ st K=>o ρ st λx s1=>getA c i x s1 K
noncomputable def ZG(c:sE)(i:M)(o v:LE):LS:=λρ st K=>v ρ st λy s1=>o ρ s1 λx s2=>∃l d fs,x=Y l/\s2 l=J (f4 c d fs)/\i<=R fs/\K .next ρ (ur s2 l (f4 c d (Cs fs i y)))
noncomputable def call(fn:V LV->LP)(as:Mr):LE:=λρ st K=>as ρ st λxs s1=>fn xs s1 K
noncomputable def new(c:sE)(fn:V LV->LP)(as:Mr):LE:=λρ st K=>as ρ st λxs s1=>∀x d,s1 x=sD->s1 d=sD->x≠d->fn (Y x::xs) (ur s1 x (f4 c d [])) λr E=>r=.none/\K (Y x) E
end L
theorem MI(r:tH h ZM vv):handedIn vv=pH:=by
 cases ZM with
 | none=>have r:_=_:=r;refine D r ?_;rfl
 | bool b=>have r:_=_:=r;refine D r ?_;rfl
 | int i=>exact Ea vv r λt=>rfl
 | str x=>exact Ea vv r λt=>rfl
 | ref a=>have r:_=_:=r;refine D r ?_;rfl
 | tup vs=>(refine vL r λa ws n e9 ø=>?_;refine D e9 ?_);rfl
theorem tV.Ğ(I:tV C E s')(h:E a=J (f4 c d fs)) :
  ∃es n,InstAt s'.heap a (za c d) c (J (dictOf es n))/\vM s'.heap (C.at_ c) fs es/\s'.heap.get? d=J (dictOf es n):=
 BV (I.rep.obj _ _ h) λg es n g2 r=>(tU es n ⟨g,H,H,g2⟩ r g2)
theorem tV.T!{t:M}{ò:V uo}(I:tV C E s')(ho:E a=J (f4 c d fs))(hs:ju d s'.heap h')
  (hg:h'.get? d=J (dictOf ò i)) (r:vM s'.heap (C.at_ c) ys ò):tV C (ur E a (f4 c d ys)) {s' with heap:=h',toks:=t}/\vV F0 E s'.heap (ur E a (f4 c d ys)) h':=by
 refine t8 (I.Ğ ho) λes n IA r0 gd=>?_
 have od:tT E d:=.inr (Dz a c fs ho);have T:tK s'.heap h':=λb dd ws m sl e=>(hs.2 b λq=>by rw[q,gd]at e;simp[dictOf]at e).trans e
 have keep:∀b,b≠d->∀x,s'.heap.get? b=J x->h'.get? b=J x:=λb q x e=>(hs.2 b q).trans e
 have ow:∀b,tT (ur E a (f4 c d ys)) b->tT E b:=by
  rintro b (⟨x,e⟩ | ⟨y,cl,gs,e⟩)
  .by_cases q:b=a
   .refine D q ?_;exact .inl ⟨_,ho⟩
   .rw[tR q]at e;exact .inl ⟨_,e⟩
  .by_cases q:y=a
   .obtain rfl:=q.symm;rw[te]at e;cases e;exact od
   .rw[tR q]at e;exact .inr (Dz _ _ _ e)
 have da:d≠a:=λq=>by have:=I.rep.apart _ _ _ _ ho;rw[q,ho]at this;exact E9 this
 refine⟨⟨⟨λb x e=>?_,λb b' cl dd gs Ĭ gs' e e'=>?_,λb cl dd gs e=>?_⟩,λb x e=>?_,λb q=>I.own b (ow b q),I.gens,I.os⟩,λb x e no ø=>?_,λb q=>.inl (ow b q),λb e=>?_⟩
 .by_cases q:b=a
  .obtain rfl:=q.symm;rw[te]at e;refine tj (gv e) ?_;exact(G9 (keep _ da.symm _ IA.at_) ò i hg (xB T r))
  .rw[tR q]at e;have r1:=I.rep.obj b x e;have bd:b≠d:=λz=>by have:=I.rep.apart _ _ _ _ ho;rw[<- z,e]at this;exact E9 this
   cases x with
   | list vs=>exact t8 r1 λws m g z r=>(tU ws m (keep _ bd _ g) z (r.mono T))
   | dict Zy=>exact vY.at T (keep _ bd) r1
   | frz o Zy=>exact⟨keep _ bd _ r1.1,vY.at T (keep _ bd) r1.2⟩
   | fin o vs=>(refine BV r1 λg ws n e r9=>xA r9 λz r=>?_);exact(DA (keep _ bd _ g) ws n e z (r.mono T))
   | inst c2 d2 gs=>
    refine BV r1 λg es2 m g2 r=>?_
    have dd:d2≠d:=λz=>q (I.rep.inj _ _ _ _ _ _ _ e (z▸ho))
    exact(G9 (keep _ bd _ g) es2 m (keep _ dd _ g2) (xB T r))
 .have f:∀{y cl gs},ur E a (f4 c d ys) y=J (f4 cl dd gs)->∃cl0 gs0,E y=J (f4 cl0 dd gs0):=λ{y cl gs} e=>by
   by_cases q:y=a
   .obtain rfl:=q.symm;rw[te]at e;cases e;exact(KD _ _ ho)
   .rw[tR q]at e;exact(KD _ _ e)
  exact KC (f e) λø ø e1=>KC (f e') λø ø e2=>I.rep.inj _ _ _ _ _ _ _ e1 e2
 .by_cases q:b=a
  .obtain rfl:=q.symm;rw[te]at e;cases e;exact D (tR da) (I.rep.apart _ _ _ _ ho)
  .rw[tR q]at e;have z:=I.rep.apart _ _ _ _ e;have:dd≠a:=λw=>by rw[w,ho]at z;exact E9 z
   exact D (tR this) z
 .exact keep b (λq=>by have:=(I.own d od).1;rw[<- q,e]at this;exact E9 this) x (I.base b x e)
 .exact keep b (λq=>no (q▸od)) x e
 .by_cases q:b=d
  .obtain rfl:=q.symm;exact E9 (hg.symm.trans e)
  .exact(hs.2 b q).symm.trans e
theorem JF(n:M)(_R:Rm A n){Q:Unit->s8->Prop}(I:tV C E s3)(ho:E a=J (f4 c d fs))(ZQ:A5 C.aI c nl=pH)
  (hi:vC (C.at_ c) nl=J i) (hl:i<=R fs) (ŗ:R (C.at_ c)<=500) (rv:tH s3.heap ZM vv)
  (h:∀s',tV C (ur E a (.inst c d (Cs fs i ZM))) s'->vV F0 E s3.heap (ur E a (.inst c d (Cs fs i ZM))) s'.heap->Q () s'):td C.aw A (setAttr (.ref a) nl vv) Q wV s3:=by
 refine t8 (I.Ğ ho) λes m IA r gd=>?_
 simp only[A5,jn,uP]at ZQ;obtain ⟨⟨⟨h1,h2⟩,h3⟩,h4⟩:=ZQ;refine set_plain I.wf IA h1 (osa_open (s:={s3 with toks:=s3.toks+1}) I.wf IA h2 h3 λb=>(s9 (any_some h4) λcd hc pt=>?_));have Ş:=ON (i:=i) (hs:=w6.keyHash C.aH.params nl) (t:=s3.toks+1) rv r hi hl;have ţ:=kH (Obj.putName nl (w6.keyHash C.aH.params nl) (.str nl (s3.toks+1)) vv) gd (D (putName_dict _ _ _ _ _ _) H);rw[(putName_dict _ _ _ _ _ _)]at ţ;refine sG (sO (sG (sG (wpAny_loadPart IA.at_ (sG (looks_clsIn I.wf hc _ _ _ _ (λø ø e=>e) (D pt (sO (a:=J d) (sG (sO (sG ?_)))))))))));refine sG (sG (wpAny_askSetting (sO (sG (wpAny_mkText (sG (wpAny_loadPart gd ?_)))))));dsimp only
 have cc:(!es.toArray.any (·.key.isStr nl)&&es.toArray.any (·.refKey))=Zt:=by
  have:es.toArray.any (·.refKey)=Zt:=by
   refine tj uX.any_toList (AU List.any_eq_false ?_);intro e he;refine D (MG r e (by simpa using he)) ?_;simp
  exact D this (D (nG _) H)
 refine D (aRefKeyMayBeTheName_at _ _) (D cc (wpAny_updatePart gd (sG (wpAny_lookBehind ţ (pastItsLine_dict (D jM (D sS (uy [500,16777217] 0x424090a60808608c0128404 H ŗ (IT Ş).1 (IT Ş).2)))) ?_))));exact xA (I.T! (t:=s3.toks+1+1) ho (jQ ..) ţ Ş) λI' x'=>sO (h _ I' x')
end
namespace L
open Classical in
noncomputable def setAt(st:LH)(o i v:LV):sF LH:=match o with
 | Y l=>(match st l with
  | some (f1 vs)=>(match i with | f0 k=>if 0<=k/\k.toNat<R vs then J (ur st l (f1 (vs.set k.toNat v))) else sD | _=>sD)
  | some (f8 Zy)=>if Bw Zy i/\R Zy<=th then J (ur st l (f8 (Cp Zy i v))) else sD
  | _=>sD)
 | _=>sD
noncomputable def setI(o i v:LE):LS:=λρ st K=>v ρ st λy s1=>o ρ s1 λx s2=>i ρ s2 λj s3=>∃s4,setAt s3 x j y=J s4/\K .next ρ s4
end L
open _root_.Mine.L renaming setAt->qA,setI->qB
theorem OO:∀{Zy:V (LV×LV)} {ks:V (al×sR)} {i:al} {lv:LV} {v:sR},yg h Zy ks->tH h lv v->yg h (Cp Zy (f0 i) lv) (stored ks i v):=by
 intro Zy ks i lv v r rv
 have key:B6 Zy (f0 i)=ks.any (λkv=>kv.1=i):=by
  have q:=C3 (i:=i) r;unfold B6;cases hd:v5 Zy (f0 i) with
  | some x=>
   rw[hd]at q;refine s9 q λy hy ø=>s9 (gR.mp hy) λp hp ø=>?_
   have:=List.find?_some hp;simp only[sF.isSome_some];exact(List.any_eq_true.mpr (ti p (nH hp) (by simpa using this))).symm
  | none=>
   rw[hd]at q;have:=nI.mp q;rw[nJ]at this;simp only[sF.isSome_none];refine(List.any_eq_false.mpr λp hp=>?_).symm
   simpa using this p hp
 unfold Cp stored;refine D key ?_
 split
 .clear key
  rename_i hh;clear hh
  revert ks
  induction Zy with
  | nil=>intro ks r;cases ks with | nil=>exact trivial | cons=>exact r.elim
  | cons kv t ih=>
   intro ks r;cases ks with
   | nil=>exact r.elim
   | cons x q=>
    refine zY r λa b c=>?_
    simp only[iN];refine(uS ?_ ?_ (ih c))
    .by_cases e:x.1=i
     .exact D (sI (D a (D e H))) (D (sI e) a)
     .exact D (sH (λz=>e (by obtain rfl:=LV.int.inj (a.symm.trans z);rfl))) (D (sH e) a)
    .by_cases e:x.1=i
     .exact D (sI (D a (D e H))) (D (sI e) rv)
     .exact D (sH (λz=>e (by obtain rfl:=LV.int.inj (a.symm.trans z);rfl))) (D (sH e) b)
 .clear key
  rename_i hh;clear hh
  revert ks
  induction Zy with
  | nil=>intro ks r;cases ks with | nil=>exact(uS H rv trivial) | cons=>exact r.elim
  | cons kv t ih=>
   intro ks r;cases ks with
   | nil=>exact r.elim
   | cons x q=>exact(uS r.1 r.2.1 (ih r.2.2))
theorem IU:∀{Zy:V (LV×LV)} {ks:V (V LA×sE×sR)} {i:V LA} {a:sE} {lv:LV} {v:sR},yh h Zy ks->tH h (.tup (i.map LA.lv)) (.ref a)->tH h lv v->yh h (Cp Zy (.tup (i.map LA.lv)) lv) (storedH ks i a v):=by
 intro Zy ks i a lv v r rk rv
 have key:B6 Zy (f2 (i.map LA.lv))=(Hd ks i).isSome:=by
  have q:=A1 (k:=i) r;unfold B6;cases hd:v5 Zy (f2 (i.map LA.lv)) with
  | some x=>
   rw[hd]at q;exact s9 q λy hy ø=>D hy H
  | none=>rw[hd]at q;exact D q H
 unfold Cp storedH;refine D key ?_
 split
 .clear key
  rename_i hh;clear hh
  revert ks
  induction Zy with
  | nil=>intro ks r;cases ks with | nil=>exact trivial | cons=>exact r.elim
  | cons kv t ih=>
   intro ks r;cases ks with
   | nil=>exact r.elim
   | cons x q=>
    refine zY r λb c d=>?_
    simp only[iN];refine(uS ?_ ?_ (ih d))
    .by_cases e:x.1=i
     .refine D (sI (D b (D e H))) ?_;simp only[putAt,e,Aa];exact D b (D e H)
     .refine D (sH (by exact D b ((λe z=>e (eA (by injection z))) e))) ?_;simp only[putAt,sH e];exact b
    .by_cases e:x.1=i
     .refine D (sI (D b (D e H))) ?_;simp only[putAt,e,Aa];exact⟨e▸c.1,rv⟩
     .refine D (sH (by exact D b ((λe z=>e (eA (by injection z))) e))) ?_;simp only[putAt,sH e];exact c
 .clear key
  rename_i hh;clear hh
  revert ks
  induction Zy with
  | nil=>intro ks r;cases ks with | nil=>exact(uS H ⟨rk,rv⟩ trivial) | cons=>exact r.elim
  | cons kv t ih=>
   intro ks r;cases ks with
   | nil=>exact r.elim
   | cons x q=>exact(uS r.1 r.2.1 (ih r.2.2))
theorem Bs.tup(I:tV C E s')(ho:E a=J o)(hs:ju a s'.heap h'):tK s'.heap h':=
 s9 (I.rep.kind (.inl ⟨o,ho⟩)) λoa ga na=>λb d ws n sl e=>(hs.2 b λq=>by rw[q,ga]at e;obtain rfl:=gv e;exact na H).trans e
theorem Sh{t:Tok}{v:sR}{Q:Unit->s8->Prop}{am:sR->s8->Prop}(hl:s'.heap.get? l=J ⟨.type "list",sD,.seq ws i,#[]⟩)
  (h0:0<=hs) (Ρ:hs<2 ^ 63) (hn:hs<ws.size) (hQ:Q () {s' with heap:=s'.heap.update l (Obj.mapSeq (·.setIfInBounds hs.toNat v))}):td C.aw A (nK (.ref l) (.int hs t) v) Q am s':=by
 unfold nK
 try with_reducible refine uf ?_
 refine sG (wpAny_sequenceKey ((ti _ hl H):s'.TypeIs (.ref l) "list") (by decide) (sG (vB (name:=mE "__setitem__") ((ti _ hl H):s'.TypeIs (.ref l) "list") slot_list_setitem (uV slot_list_setitem ((ti _ hl H):s'.TypeIs (.ref l) "list") entry_list_setitem ?_ (args_list_setitem _ _ _)))));refine(?_:td _ _ (Ac.List.listSubscript? (.int hs t) >>=_) _ _ s');refine sG (wpAny_listSubscript_int (fitsIndex_of h0 Ρ) ?_)
 (refine xE (Int.eq_ofNat_of_zero_le h0) λj e9=>?_;subst e9)
 refine sG (sG (wpAny_seqItemAt hl H (sO (D (k8 (Iff.mp g8 hn:j<ws.size)) ?_))));exact sG (wpAny_setSeqItemAt hl H (sO ⟨.none,H,sO hQ⟩))
namespace S
theorem u_(I:tV C E s')(hl:E l=J (f8 Zy))(hk:wu Zy=pH)(rv:tH s'.heap v vv) :
  ∃ks,s'.heap.DictOf (vt C.prog C.aH) l ks/\R Zy=R ks/\∀h' t,h'.DictOf (vt C.prog C.aH) l (stored ks d7 vv)->ju l s'.heap h'->tV C (ur E l (f8 (Cp Zy (f0 d7) v))) {s' with heap:=h',toks:=t}/\vV F0 E s'.heap (ur E l (f8 (Cp Zy (f0 d7) v))) h':=by
 refine s9 (vY.â (I.rep.obj _ _ hl) hk) λks hd r=>(tC ks hd (Fd r) (λh' t pt hs=>?_))
 have T:=Bs.tup I hl hs;exact I.change (t:=t) hl (λh=>h) (λh=>h) hs (vL pt λo ø ø g ø=>⟨o,g⟩) (.inl ⟨_,pt,OO (Hc T r) (rv.mono T)⟩)
theorem u?{ks:V LA}(I:tV C E s')(hl:E l=J (.dict Zy))(hk:vG Zy=pH)(ri:tH s'.heap (.tup (ks.map LA.lv)) (.ref a))(rv:tH s'.heap v vv) :
  ∃xs,s'.heap.DictOfH (t5 (tZ C.prog C.aH)) l xs/\R Zy=R xs/\∀h' t,h'.DictOfH (t5 (tZ C.prog C.aH)) l (storedH xs ks a vv)->ju l s'.heap h'->tV C (ur E l (f8 (Cp Zy (f2 (ks.map LA.lv)) v))) {s' with heap:=h',toks:=t}/\vV F0 E s'.heap (ur E l (f8 (Cp Zy (f2 (ks.map LA.lv)) v))) h':=by
 refine s9 (vY.á (I.rep.obj _ _ hl) hk) λxs hd r=>(tC xs hd (Fe r) (λh' t pt hs=>?_))
 have T:=Bs.tup I hl hs;exact I.change (t:=t) hl (λh=>h) (λh=>h) hs (vL pt λo ø ø g ø=>⟨o,g⟩) (.inr ⟨_,pt,IU (DB T r) (ri.mono T) (rv.mono T)⟩)
theorem setItem(n:M)(bi:Rm A n){st E:LH}{s:s8}{o i v:LV}{vo vi vv:sR}{Q:Unit->s8->Prop}(I:tV C st s)(ro:tH s.heap o vo)(ri:tH s.heap i vi)(rv:tH s.heap v vv)(h:qA st o i v=J E)
  (k:∀s',tV C E s'->vV F0 st s.heap E s'.heap->Q () s'):td C.aw A (nK vo vi vv) Q wV s:=by
 cases o with
 | ref l=>
  subst ro;unfold qA at h;dsimp only at h;cases hl:st l with
  | none=>rw[hl]at h;exact uH h
  | some ob=>
   rw[hl]at h;cases ob with
   | list vs=>
    cases i with
    | int j=>
     refine Ea vi ri λt=>?_
     by_cases hh:0<=j/\j.toNat<R vs
     .cases (sI hh).symm.trans h;refine t8 (I.rep.obj _ _ hl) λws m g z r=>?_
      have hlen:=r.len;refine Sh g hh.1 (by lia) (by lia) ?_;have hs:ju l s.heap (s.heap.update l (Obj.mapSeq (·.setIfInBounds j.toNat vv))):=jQ ..;have g':=kH (Obj.mapSeq (·.setIfInBounds j.toNat vv)) g H;exact xA (I.change (o':=f1 (vs.set j.toNat v)) (t:=s.toks) hl (λh=>h) (λh=>h) hs ⟨_,g'⟩ (tU _ _ g' (D uX.size_setIfInBounds z) (D uX.toList_setIfInBounds (sY.set j.toNat (r.mono (Bs.tup I hl hs)) (rv.mono (Bs.tup I hl hs)))))) λI' x=>k _ I' x
     .cases (sH hh).symm.trans h
    | _=>exact uH h
   | dict Zy=>
    by_cases hh:Bw Zy i/\R Zy<=th
    .cases (sI hh).symm.trans h;obtain ⟨hk,hz⟩:=hh;cases hk with
     | int hk=>
      obtain ⟨t,rfl⟩:=ri;obtain ⟨ks,hd,hlen,put⟩:=u_ I hl hk rv;exact wpAny_setItem_pairs (knd:=vt C.prog C.aH) (by simp[vt,jF]) hd (λh' pt hs=>xA (put h' _ pt hs) λI' x=>k _ I' x) (hlen▸hz)
     | tup hk=>
      (refine s9 (Ff (prog:=C.prog) (w:=C.aH) ri) λa e9 wl=>?_;subst e9)
      exact tW (u? I hl hk ri rv) λxs hd hlen put=>wpAny_setItem_heap (show A.units+1<Gd by exact tD [64,1] 0x1421200252802400422 H bi.line) wl hd (λh' pt hs=>xA (put h' _ pt hs) λI' x=>k _ I' x) (hlen▸hz)
    .cases (sH hh).symm.trans h
   | _=>exact uH h
 | _=>exact uH h
theorem setI(n:M)(bi:Rm A n){p:Pos}(ho:tA C A env Zw (eval ea env) mo)(hi:tA C A env Zw (eval eb env) ma)(hv:tA C A env Zw (eval ec env) mb)
  (hs:vO ec (J (.Subscript ea eb p)) pos.line env=pure Zt):v8 C A env Zw (exec (.Assign [.Subscript ea eb p] ec pos) env) (qB mo ma mb):=λø ρ st s K I F k=>by
 refine wpAny_Assign_Subscript (vf (hv ρ st s _ I F k) λvv s1 lv ZK r1 I1 x1 k1=>?_) hs;refine vf (ho ρ ZK s1 _ I1 (F.ext I x1) k1) λvo s2 lo ZV r2 I2 x2 k2=>?_
 have F2:=(F.ext I x1).ext I1 x2;exact vf (hi ρ ZV s2 _ I2 F2 k2) λvi s3 li ZJ r3 I3 x3 k3=>s9 k3 λs4 e k3=>setItem n bi I3 (r2.mono (x3.wn I2.rep)) r3 ((r1.mono (x2.wn I1.rep)).mono (x3.wn I2.rep)) e λs' I' x=>(tq .next ρ s4 H I' ((F2.ext I2 x3).ext I3 x) (wi (((x1.trans x2).trans x3).trans x)) k3)
set_option tactic.hygienic true in
theorem P_(ZQ:Fg C.aI c nl=pH)(hi:vC (C.at_ c) nl=J i)(I:tV C E s')(ro:tH s'.heap b vo)(k:L.getA c i b E K) :
  td C.aw A (PySem.getAttr vo nl mf) (tI C E s' K) wV s':=by
 obtain ⟨a,d,fs,lv,rfl,ho,ZB,k⟩:=k;subst ro;obtain ⟨es,m,IA,r,gd⟩:=I.Ğ ho;obtain ⟨vo,hv,q⟩:=NI (x:=nl) r;rw[hi]at q;have q:OR _ fs[i]? vo:=q;rw[ZB]at q;obtain ⟨v,e,rv⟩:=q;subst e;unfold Fg at ZQ;simp only[jn]at ZQ;obtain ⟨⟨h1,h2⟩,h3⟩:=ZQ
 split at h3
 .rename_i a' ha
  exact get_value I.wf IA (plainGet_of h1).1 (findObj_own h2 ha h3 (by rw[lookIn_dict];exact hv)) (MI rv) (.same I rv k)
 .exact ft h3
theorem attr(ZQ:Fg C.aI c nl=pH)(hi:vC (C.at_ c) nl=J i)(ho:tA C A env Zw (eval ea env) mo)
  (hb:Au ea nl env (eval ea env)=eval ea env):tA C A env Zw (eval (.Attribute ea nl pos) env) (L.Zx c i mo):=λρ st s K I F k=>by
 (rewrite[arm_eval_Attribute];refine D hb ?_)
 exact Ju (ho ρ st s _ I F k) λlo ZK vo s1 r1 I1 x1 k1=>sG (x9 (sG (uf (uB (P_ ZQ hi I1 r1 k1) (λv s2 p=>sG (wpAny_letTemporaryGo (sO (p.from x1)))) λø ø e=>e))))
theorem ZG(n:M)(bi:Rm A n){p:Pos}(ZQ:A5 C.aI c nl=pH)(hi:vC (C.at_ c) nl=J i)(ŗ:R (C.at_ c)<=500)(ho:tA C A env Zw (eval ea env) mo)(hv:tA C A env Zw (eval eb env) e)
  (hs:vO eb (J (.Attribute ea nl p)) pos.line env=pure Zt):v8 C A env Zw (exec (.Assign [.Attribute ea nl p] eb pos) env) (L.ZG c i mo e):=λø ρ st s K I F k=>by
 refine plainObj_wpAny_Assign_Attribute (vf (hv ρ st s _ I F k) λvv s1 lv ZK r1 I1 x1 k1=>?_) hs;refine vf (ho ρ ZK s1 _ I1 (F.ext I x1) k1) λvo s2 lo ZV r2 I2 x2 k2=>?_
 (refine t9 k2 λa d fs e9 ho hl k3=>?_;subst e9)
 subst r2;exact JF n bi I2 ho ZQ hi hl ŗ (r1.mono (x2.wn I1.rep)) λs' I' nl=>(tq .next ρ _ H I' (((F.ext I x1).ext I1 x2).ext I2 nl) (wi ((x1.trans x2).trans nl)) k3)
theorem Ō{K:V LV->LH->Prop}(hk:Fh C.aI vv=pH)(ha:BW C A env Zw (wt (uO pos (sZ as env))) es)
  (hn:as=[]->es=pK) (I:tV C E s') (F:tG C env Zw ρ E s'.heap) (k:es ρ E K) (hp:(uO pos (sZ as env)).any (·.1)=Zt)
  (he:∀e r,as=e::r->sZ (e::r) env=(Zt,eval e env)::sZ r env)
  (h:∀BT vs ZK s1,sY s1.heap BT vs->tV C ZK s1->vV F0 E s'.heap ZK s1.heap->K BT ZK->td C.aw A (j9 vv (cN++vs)) am wV s1):td C.aw A (callWith pos vv cN (uO pos (sZ as env)) []) am wV s':=by
 cases as with
 | nil=>
  refine callWith_of H (keeps_K hk) (evalArgs_nil3 ?_);rw[hn H]at k;exact⟨I.wf,h [] [] E s' trivial I (.refl ..) k⟩
 | cons e rest=>
  have ý:=ha ρ E s' K I F k;rw[(he e rest H)]at ý hp ⊢;exact callWith_of (D hp H) (keeps_K hk) (evalArgs_plain (IQ ý λvs s1 BT ZK r I1 x1 k1=>⟨I1.wf,h _ _ _ _ r I1 x1 k1⟩))
end S
namespace L
noncomputable def ĥ(c:sE)(st:LH)(x:LV):Prop:=∃l d fs,x=Y l/\st l=J (f4 c d fs)
noncomputable def callM(c:sE)(fn:V LV->LP)(o:LE)(as:Mr):LE:=λρ st K=>o ρ st λx s1=>ĥ c s1 x/\as ρ s1 λxs s2=>fn (x::xs) s2 K
end L
open _root_.Mine.L renaming callM->qC
theorem B7.call{as:V LV}(h:B7 C i vv fn)(bi:Rm A i)(I:tV C E s3)(r:sY s3.heap as cN)(k:fn as E K) :
  td C.aw A (j9 vv cN) (tI C E s3 K) wV s3:=by
 refine wpAny_call (Em (h A as cN E s3 K bi I r k) λq s' z=>?_)
 (refine s9 z λv e9 p=>?_;refine D e9 ?_)
 exact p
theorem B7.new{n:M}{vs:V sR}(hm:makesIn C.aI c=pH)(hi:Hh C.aI (.ref c) "__init__" = J (J (.ref l)))(hf:typeIn C.aI (.ref l)=J (.type "function"))
  (h:B7 C n (.ref l) fn) (bi:Rm A (n+1)) (I:tV C ZJ s3) (r:sY s3.heap ys vs)
  (k:∀x d,ZJ x=sD->ZJ d=sD->x≠d->fn (.ref x::ys) (ur ZJ x (.inst c d [])) λr E=>r=.none/\K (.ref x) E):td C.aw A (j9 (.ref c) vs) (tI C ZJ s3 K) wV s3:=by
 obtain ⟨hh,g,d,t,os⟩:=s3;refine wpAny_call (make_core (makes_of I.wf hm) (looks_findIn I.wf hi) (λself=>bind_fn I.wf self hf) (.inl H) ?_);have kp:∀b o,hh.get? b=J o->((hh.push wY).push (za c hh.objs.size)).get? b=J o:=λb o e=>jH _ (jH _ e)
 have I1:tV C ZJ ⟨(hh.push wY).push (za c hh.objs.size),g,d,t,os⟩:=I.grow (s:=⟨hh,g,d,t,os⟩) kp;have above:∀b:M,tT ZJ b->b<hh.objs.size:=λb o=>I.lt o
 have nx:ZJ (hh.objs.size+1)=sD:=by
  cases q:ZJ (hh.objs.size+1) with
  | none=>rfl
  | some o=>have:=above (hh.objs.size+1) (.inl ⟨o,q⟩);exact(PO [1] 0x2002400421 H this).elim
 have none_:∀b:M,hh.objs.size<=b->hh.get? b=sD:=λb hb=>by
  cases q:hh.get? b with
  | none=>rfl
  | some o=>have:b<hh.objs.size:=i7 q;exact(KP [] 0x42842520402 H hb this).elim
 have ow:∀b:M,tT (ur ZJ (hh.objs.size+1) (f4 c hh.objs.size [])) b->hh.objs.size<=b\/tT ZJ b:=by
  rintro b (⟨o,e⟩ | ⟨a,cl,fs,e⟩)
  .by_cases q:b=hh.objs.size+1
   .left;exact q▸kI _
   .rw[tR q]at e;exact .inr (.inl ⟨_,e⟩)
  .by_cases q:a=hh.objs.size+1
   .subst q;rw[te]at e;cases e;left;exact gC _
   .rw[tR q]at e;exact .inr (.inr (Dz _ _ _ e))
 have I2:tV C (ur ZJ (hh.objs.size+1) (f4 c hh.objs.size [])) ⟨(hh.push wY).push (za c hh.objs.size),g,d,t,os⟩:=by
  refine⟨⟨λa o e=>?_,λa a' cl dd fs Ĭ Ì e e'=>?_,λa cl dd fs e=>?_⟩,I1.base,λb q=>?_,I1.gens,I1.os⟩
  .by_cases q:a=hh.objs.size+1
   .subst q;rw[te]at e;refine tj (gv e) ?_;exact(G9 (tj (nM .. : (hh.push wY).objs.size=hh.objs.size+1) (iW _ H):((hh.push wY).push (za c hh.objs.size)).get? (hh.objs.size+1)=J (za c hh.objs.size)) ([]) 0 (jH _ (iW _ H):((hh.push wY).push (za c hh.objs.size)).get? hh.objs.size=J wY) (by cases C.at_ c<;>exact trivial))
   .rw[tR q]at e;exact I1.rep.obj _ _ e
  .by_cases q:a=hh.objs.size+1
   .by_cases q':a'=hh.objs.size+1
    .exact D q (D q' H)
    .subst q;rw[te]at e;cases e;rw[tR q']at e';exact(iV _ (above _ (.inr (Dz _ _ _ e')))).elim
   .rw[tR q]at e
    by_cases q':a'=hh.objs.size+1
    .subst q';rw[te]at e';cases e';exact(iV _ (above _ (.inr (Dz _ _ _ e)))).elim
    .rw[tR q']at e';exact I1.rep.inj _ _ _ _ _ _ _ e e'
  .by_cases q:a=hh.objs.size+1
   .subst q;rw[te]at e;cases e;exact D (tR (Nat.succ_ne_self _).symm) (I.ZX:ZJ hh.objs.size=sD)
   .rw[tR q]at e;have lt:=above dd (.inr (Dz _ _ _ e));exact D (tR (λq=>by rw[q]at lt;exact iV _ (Nat.lt_of_succ_lt lt))) (I1.rep.apart _ _ _ _ e)
  .rcases ow b q with q | q
   .exact(λb hb=>I.off hb:∀b:M,hh.objs.size<=b->C.Off b) b q
   .exact I.own b q
 have x2:vV F0 ZJ hh (ur ZJ (hh.objs.size+1) (f4 c hh.objs.size [])) ((hh.push wY).push (za c hh.objs.size)):=by
  refine⟨λb o e ø ø=>kp b o e,λb q=>?_,λb e=>?_⟩
  .rcases ow b q with q | q
   .exact .inr (none_ b q)
   .exact .inl q
  .cases q:hh.get? b with
   | none=>rfl
   | some o=>rw[kp b o q]at e;exact E9 e
 refine Em (h _ (Y (hh.objs.size+1)::ys) _ _ ⟨(hh.push wY).push (za c hh.objs.size),g,d,t,os⟩ (λr E=>r=.none/\K (Y (hh.objs.size+1)) E) ⟨bi.hd,?_,?_⟩ I2 ⟨H,r.mono (.of_keeps kp)⟩ (k _ _ nx (I.ZX:ZJ hh.objs.size=sD) (Nat.succ_ne_self _))) λq s' z=>?_
 .refine(?_:A.depth+1+_<=_);exact tD [3,1,990] 0x2094020848000482084250004400402 H bi.bC
 .refine(?_:A.units+1+_<=_);exact tD [10,1,9000] 0x2094020848000482084250004400402 H bi.un
 .obtain ⟨v,rfl,lv,E,rv,I3,x3,rfl,k3⟩:=z;subst (rv:_=_);exact(DA H (Y (hh.objs.size+1)) E H I3 ⟨x2.trans x3,k3⟩)
namespace S
theorem glob{r:sF sR}(I:tV C E s')(F:tG C env Zw ρ E s'.heap)(hx:env.kindOf nl=J .globalImplicit)(e:nsIn C.aI sV nl=J (J vv))(h:am vv s')
  (hd:(nl==("__debug__" : ap))=Zt):td C.aw A (eval (.Name nl pos) env) am wV s':=by
 refine Name_function_global F.hk hx ?_ hd;unfold loadGlobal;exact D F.glob (sG ((looks_nsIn I.wf e).here (sO h)))
theorem blt{x:ap}{v:sR}(I:tV C E s')(F:tG C env Zw ρ E s'.heap)(hx:env.kindOf x=J .globalImplicit)(e:nsIn C.aI sV x=J sD)(hb:Bu x=J v)(hn:x≠"__name__")(h:am v s')
  (hd:(x==("__debug__" : ap))=Zt):td C.aw A (eval (.Name x pos) env) am wV s':=by
 refine Name_function_global F.hk hx ?_ hd;unfold loadGlobal;refine D F.glob (D F.blt (sG ((looks_nsIn I.wf e).here (sG (wpAny_nsGet (dQ C.x_ λo e=>I.base _ o e:s'.heap.Ns tO C.bY) (D (C.i_ x hn) (D hb ?_)))))));exact sO h
theorem Θ{t:Tok}(hx:env.kindOf nl=J .globalImplicit)(e:nsIn C.aI sV nl=J (J (.int hs t)))(hd:(nl==("__debug__" : ap))=Zt):tA C A env Zw (eval (.Name nl pos) env) (pG (.int hs)):=
 λø ø s ø I F k=>glob (r:=sD) I F hx e (tI.same (t:=s.toks) (lv:=f0 hs) I ⟨t,H⟩ k) hd
theorem Ζ(bi:Rm A i)(hx:env.kindOf nl=J .globalImplicit)(e:nsIn C.aI sV nl=J (J (.ref f)))(hk:Fh C.aI (.ref f)=pH)(hf:B7 C i (.ref f) fn)
  (ha:BW C A env Zw (wt (uO pos (sZ as env))) es) (hn:as=[]->es=pK) (hp:(uO pos (sZ as env)).any (·.1)=Zt)
  (he:∀e r,as=e::r->sZ (e::r) env=(Zt,eval e env)::sZ r env) (hd:(nl==("__debug__" : ap))=Zt) :
  tA C A env Zw (eval (.Call (.Name nl p1) as [] pos) env) (L.call fn es):=λρ st s K I F k=>by
 refine Hi (glob (r:=sD) I F hx e ?_ hd);exact Ō hk ha hn I F k hp he λBT vs ZK s1 r1 I1 x1 k1=>AW (hf.call bi I1 r1 k1) x1
theorem callC(bi:Rm A (i+1))(hx:env.kindOf nl=J .globalImplicit)(e:nsIn C.aI sV nl=J (J (.ref c)))(hk:Fh C.aI (.ref c)=pH)
  (hm:makesIn C.aI c=pH) (hi:Hh C.aI (.ref c) "__init__" = J (J (.ref a))) (ht:typeIn C.aI (.ref a)=J (.type "function")) (hf:B7 C i (.ref a) fn)
  (ha:BW C A env Zw (wt (uO pos (sZ as env))) es) (hn:as=[]->es=pK) (hp:(uO pos (sZ as env)).any (·.1)=Zt)
  (he:∀e r,as=e::r->sZ (e::r) env=(Zt,eval e env)::sZ r env) (hd:(nl==("__debug__" : ap))=Zt) :
  tA C A env Zw (eval (.Call (.Name nl p1) as [] pos) env) (L.new c fn es):=λρ st s K I F k=>by
 refine Hi (glob (r:=sD) I F hx e ?_ hd);exact Ō hk ha hn I F k hp he λBT vs ZK s1 r1 I1 x1 k1=>AW (B7.new hm hi ht hf bi I1 r1 k1) x1
theorem callM(bi:Rm A i){o:bm}(ZQ:MH C.aI c nl f=pH)(hi:vC (C.at_ c) nl=sD)(hk:Fh C.aI (.ref f)=pH)(hf:B7 C i (.ref f) fn)
  (ho:tA C A env Zw (eval o env) mo) (ha:BW C A env Zw (wt (uO pos (sZ as env))) f7) (hn:as=[]->f7=pK) (hp:(uO pos (sZ as env)).any (·.1)=Zt)
  (he:∀e r,as=e::r->sZ (e::r) env=(Zt,eval e env)::sZ r env)
  (hc:∃pl,eval (.Call (.Attribute o nl p1) as [] pos) env=(do
   let ov <- eval o env
   Ef p1.atName
   let (f,first) <- Eg [ov] (getMethod ov nl pl)
   callWith pos f first (uO pos (sZ as env)) (backToKw pos (keywordEach [] env)))) :
  tA C A env Zw (eval (.Call (.Attribute o nl p1) as [] pos) env) (qC c fn mo f7):=λρ st s K I F k=>by
 refine xE hc λpl hc=>methodCall_KW (pl:=pl) (vf (ho ρ st s _ I F k) λvo s1 lo ZK r1 I1 x1 k1=>?_) hc
 (refine vL k1.1 λa d fs e9 ho=>?_;subst e9)
 subst r1;refine t8 (I1.Ğ ho) λes q IA r gd=>s9 (NI (x:=nl) r) λvo g q=>?_
 rw[hi]at q;subst (q:vo=sD);simp only[MH,jn,uP]at ZQ;refine method_fn I1.wf IA (plainGet_of ZQ.1.1).1 (plainGet_of ZQ.1.1).2 ZQ.1.2 ZQ.2 (by refine(?_:(lookIn _ _).map _=_);(rewrite[lookIn_dict];refine D g ?_);rfl) ?_;exact Ō hk ha hn I1 (F.ext I x1) k1.2 hp he λBT vs ZV s2 r2 I2 x2 k2=>AW (hf.call (as:=.ref a::BT) bi I2 ⟨H,r2⟩ k2) (x1.trans x2)
end S
namespace L
noncomputable def nxtL(l:sE)(i:M)(st:LH):sF (sF LV):=match st l with | some (f1 vs)=>J vs[i]? | _=>sD
noncomputable def ë(vs:V LV)(i:M)(_:LH):sF (sF LV):=J vs[i]?
open Classical in
noncomputable def Ê(d:sE)(o:Obj)(Zy:V (LV×LV))(i:M)(st:LH):sF (sF LV):=if st d=J (Da o Zy) then J (Zy[i]?.map (·.1)) else sD
noncomputable def nxtR(a c:al)(n i:M)(_:LH):sF (sF LV):=J (if i<n then J (f0 (a+i*c)) else sD)
end L
open _root_.Mine.L renaming nxtL->qD,nxtR->qE
noncomputable abbrev Nx:=M->LH->sF (sF LV)
variable {nx:Nx}
noncomputable abbrev LI:=uZ->LH->(Nx->LH->Prop)->Prop
noncomputable abbrev LT:=LV->uZ->sF uZ
variable {tg:LT}
namespace L
noncomputable def t1(i:M):LT:=λv ρ=>J (ρ.set i (J v))
noncomputable def t2(i j:M):LT:=λv ρ=>match v with | f2 [a,b]=>J ((ρ.set i (J a)).set j (J b)) | _=>sD
noncomputable def forN(nx:Nx)(t:LT)(b:LS):M->M->LS
 | 0,_=>λø ø ø=>uF
 | n+1,i=>λρ st K=>(nx i st=J sD/\K .next ρ st)\/∃v jp,nx i st=J (J v)/\t v ρ=J jp/\b jp st (ue (λem E=>forN nx t b n (i+1) em E K) K)
noncomputable def forI(mi:LI)(t:LT)(b:LS):LS:=λρ st K=>mi ρ st λnx s1=>∃n,forN nx t b n 0 ρ s1 K
end L
open _root_.Mine.L renaming t1->qF,t2->qG,forN->qH,forI->qI
noncomputable def Sq(st:LH)(x:LV)(vs:V LV):Prop:=x=f2 vs\/∃l,x=Y l/\st l=J (f1 vs)
noncomputable def IV(K:Nx->LH->Prop)(x:LV)(s:LH):Prop:=(∃vs,x=f2 vs/\K (L.ë vs) s)\/∃l vs,x=Y l/\s l=J (f1 vs)/\K (qD l) s
namespace L
noncomputable def over(e:LE):LI:=λρ st K=>e ρ st (IV K)
noncomputable def overD(e:LE):LI:=λρ st K=>e ρ st λx s1=>∃d Zy,x=Y d/\s1 d=J (f8 Zy)/\∀o,K (Ê d o Zy) (ur s1 d (Da o Zy))
noncomputable def overR1(e:LE):LI:=λρ st K=>e ρ st λx s1=>∃n:al,x=f0 n/\-(2 ^ 40)<=n/\n<=2 ^ 40/\K (nxtR 0 1 n.toNat) s1
noncomputable def æ(a b c:LE):LI:=λρ st K=>a ρ st λx s1=>b ρ s1 λy s2=>c ρ s2 λz s3=>∃n:al,x=f0 n/\y=f0 (-1)/\z=f0 (-1)/\0<=n/\n<=2 ^ 40/\K (nxtR n (-1) (n.toNat+1)) s3
noncomputable def x?(st E:LH):Prop:=E=st\/∃d o Zy,st d=J (Da o Zy)/\E=ur st d (f8 Zy)
noncomputable def thawed(m:LS):LS:=λρ st K=>m ρ st λfl em E=>∃ę,x? E ę/\K fl em ę
end L
open _root_.Mine.L renaming over->qJ,overD->qK,overR1->qL,thawed->qM
structure Av (C:Cx) (A:vy) (nx:Nx) (it:sE) (St:M->ds->Prop):Prop where
 at_:∀i h,St i h->∃o,h.get? it=J o/\o.cls≠.type "tuple"
 keep:∀i h h',St i h->(∀o,h.get? it=J o->h'.get? it=J o)->tK h h'->St i h'
 item:∀i st s lv (Q:sF sR->s8->Prop),tV C st s->St i s.heap->¬ tT st it->nx i st=J (J lv)->
  (∀v h' tk,tH s.heap lv v->St (i+1) h'->(∀b o,b≠it->s.heap.get? b=J o->h'.get? b=J o)->Q (J v) {s with heap:=h',toks:=tk})->td C.aw A (Hj (.ref it)) Q wV s
 done:∀i st s (Q:sF sR->s8->Prop),tV C st s->St i s.heap->¬ tT st it->nx i st=J sD->
  (∀h' tk,(∀b o,b≠it->s.heap.get? b=J o->h'.get? b=J o)->Q sD {s with heap:=h',toks:=tk})->td C.aw A (Hj (.ref it)) Q wV s
 go:∀i target v s (Q:Unit->s8->Prop),St i s.heap->Q () s->td C.aw A (yu target (.ref it) v) Q wV s
 self:∀i s (Q:sR->s8->Prop),St i s.heap->Q (.ref it) s->td C.aw A (pyIter (.ref it)) Q wV s
theorem C4{Q':Unit->s8->Prop}(hit:∃o,s'.heap.get? a=J o/\o.cls=.type fc/\o.data=.fields ws)
  (hn:["enumerate","zip","dict_itemiterator","dict_reverseitemiterator","odict_iterator","itertools.zip_longest","itertools.pairwise"].contains fc=Zt) (h:Q' () s'):td C.aw A (yu ea (.ref a) vv) Q' am s':=by
 refine tW hit λo ho hc hd=>?_
 cases ea<;>first
  | exact sO h
  | (cases vv<;>first
    | exact sO h
    | (refine sG (wpAny_load ho (D hc (D hd ?_)));dsimp only;exact D hn (D (sH (by simp)) (sO h))))
theorem tV.list(I:tV C E s')(h:E l=J (f1 vs)):∃ws,s'.heap.IsList l ws/\sY s'.heap vs ws.toList/\ws.size<=2 ^ 25:=
 t8 (I.rep.obj _ _ h) λws n g z r=>⟨ws,⟨_,g,H,n,H⟩,r,z⟩
theorem sY.none(r:sY h fs cN)(e:fs[i]?=sD):cN[i]?=sD:=by
 rw[jg]at e ⊢;exact uy [] 0x5204843046530403 H e r.u8
theorem MJ{P:Obj->Prop}(q:∃o,h.get? a=J o/\o.cls=.type fc/\P o)(hn:nv fc≠.type "tuple"):∃o,h.get? a=J o/\o.cls≠.type "tuple":=tW q λo e c ø=>⟨o,e,c▸hn⟩
theorem JG{P:Obj->Prop}(q:∃o,h.get? a=J o/\P o)(k:∀o,h.get? a=J o->h'.get? a=J o):∃o,h'.get? a=J o/\P o:=s9 q λo e r=>⟨o,k o e,r⟩
set_option tactic.hygienic true in
theorem Av.list(bi:A.handled=sD):Av C A (qD l) a (λi h=>h.IsListIter a l i) where
 at_:=λi h q=>MJ q (by decide)
 keep:=λi h h' q k ø=>JG q k
 item:=λi st s lv Q rC hit no e k=>by
  unfold qD at e
  split at e
  .rename_i vs hl
   exact tW (rC.list hl) λws hL r z=>s9 (r.get (gv e)) λv hv rv=>wpAny_pyNext_list_item hit hL (by simpa using hv) λh' SB hs=>k v h' s.toks rv SB λb o q g=>(hs.2 b q).trans g
  .exact uH e
 done:=λi st s Q rC hit no e k=>by
  unfold qD at e
  split at e
  .rename_i vs hl
   exact tW (rC.list hl) λws hL r z=>wpAny_pyNext_list_end bi hit hL (by simpa using r.none (gv e)) λh' hs=>k h' s.toks λb o q g=>hs b o q g
  .exact uH e
 go:=λi t v s Q hit q=>C4 hit (by decide) q
 self:=λi s Q hit q=>wpAny_pyIter_listiter hit q
theorem Av.tup(bi:A.handled=sD)(Z0:l≠c):Av C A (L.ë vs) c (λi h=>h.IsTupleIter c l i/\tH h (.tup vs) (.ref l)) where
 at_:=λi h q=>MJ q.1 (by decide)
 keep:=λi h h' q k l=>⟨JG q.1 k,q.2.mono l⟩
 item:=λi st s lv Q rC h no e k=>by
  (refine xA h λhit r9=>t9 r9 λa ws n ha g z r=>?_)
  obtain rfl:=mF ha;refine s9 (r.get (gv e)) λv hv rv=>wpAny_pyNext_tuple_item hit (yS _ g H n H) (by simpa using hv) λh' SB hs=>k v h' s.toks rv ⟨SB,(uQ l ws n H ((hs.2 l Z0).trans g) z (r.mono ?_))⟩ λb o q g=>(hs.2 b q).trans g
  exact tW hit λo ho hc ø=>λb d ws m sl e=>(hs.2 b λq=>by rw[q,ho]at e;obtain rfl:=gv e;simp at hc).trans e
 done:=λi st s Q rC h no e k=>by
  (refine xA h λhit r9=>t9 r9 λa ws n ha g z r=>?_)
  obtain rfl:=mF ha;exact wpAny_pyNext_tuple_end bi hit (yS _ g H n H) (by simpa using r.none (gv e)) λh' hs=>k h' s.toks λb o q g=>hs b o q g
 go:=λi t v s Q hit q=>C4 hit.1 (by decide) q
 self:=λi s Q hit q=>wpAny_pyIter_tupleiter hit.1 q
theorem Av.range(bi:A.handled=sD):Av C A (qE d7 d8 X) d (λi h=>IsRangeIter h d (d7+(i:M)*d8) ((X:al) - (i:M)) d8) where
 at_:=λi h e=>(ti _ e (by simp))
 keep:=λi h h' e k ø=>k _ e
 item:=λi st s lv Q rC hit no e k=>by
  unfold qE at e
  split at e
  .rename_i hi
   cases e;refine wpAny_pyNext_range_item hit (Int.sub_pos_of_lt (g8.mpr hi)) λh' SB hs=>k _ h' _ ⟨_,H⟩ ?_ λb o q g=>(hs.2 b q).trans g
   have e1:d7+((i+1:M):al)*d8=d7+i*d8+d8:=by push_cast;rw[Int.add_mul,Int.one_mul,Int.add_assoc]
   have e2:X - ((i+1:M):al)=X - i - 1:=(Int.sub_sub (X:al) i 1).symm;exact D e1 (D e2 SB)
  .cases e
 done:=λi st s Q rC hit no e k=>by
  unfold qE at e
  split at e
  .cases e
  .exact wpAny_pyNext_range_end bi hit (Int.sub_nonpos_of_le (jf.mpr (jd ‹_›))) λh' hs=>k h' s.toks λb o q g=>hs b o q g
 go:=λi t v s Q hit q=>C4 (tC _ hit H rfl) (by decide) q
 self:=λi s Q hit q=>wpAny_pyIter_rangeiter hit q
theorem Si{am:sR->s8->Prop}{es:uX uo}(hd:(d==zj)=Zt)(ho:s'.heap.get? d=J od)(hc:od.ExactDict)(o?:od.data=.dict es i)
  (hQ:Q₁ (.ref s'.heap.objs.size) {s' with heap:=s'.heap.push {cls:=.type "dict_keyiterator",data:=.fields #[.ref d,.int 0 0,.int es.size 0,.int i 0]}}) :
  td C.aw A (pyIter (.ref d)) Q₁ am s':=by
 refine wpAny_pyIter_slot (ti od ho hc.1) F.slot_dict_iter (uV F.slot_dict_iter (ti od ho hc.1) F.entry_dict_iter ?_ (F.args_dict_iter_1 _));refine sG (sG (B8 (ti od ho hc.1) (?_:td _ _ (pure (kb d)) _ _ s')));refine sO (?_:td _ _ (oE d >>=_) _ _ s');unfold oE;refine D (sH (by exact D hd iw)) (sG (sO (sG (w7 ho o? (sG (B0 ho o? (sG (uc (sO (Ir _ H ("dict_keyiterator") (tC _ (ti _ (iW _ H) H) F.slot_dict_keyiterator_next.lookup ?_)))))))))))
 simpa [rawInt] using hQ
theorem Sj{am:sR->s8->Prop}{es:uX uo}{Q:sF sR->s8->Prop}(hit:s'.heap.IsKeyIter a d i es.size t)(ĉ:s'.heap.get? d=J od)(ÿ:od.data=.dict es t)(ħ:i<es.size)
  (hQ:∀h',h'.IsKeyIter a d (i+1) es.size t->ju a s'.heap h'->Q (J es[i].key) {s' with heap:=h'}):td C.aw A (Hj (.ref a)) Q am s':=by
 refine tW (id hit) λo ho hc hd=>sG (wpAny_attempt (vB hit.typeIs F.slot_dict_keyiterator_next
  (uV F.slot_dict_keyiterator_next hit.typeIs F.entry_dict_keyiterator_next ?_ (F.args_dict_keyiterator_next_1 _))))
 refine sG (sO (sG (sG ?_)))
 first | refine sG (uI hit.typeIs (sO ?_)) | refine sG (vq hit.typeIs (sO ?_))
 refine sG (wpAny_fieldsOf ho hd (D (sH (by decide)) (?_:td _ _ (if (kb d==lU)=pH then _ else _) _ _ s')));refine D (sH (show ¬ ((kb d==lU)=pH) from iw)) (sG (sO (sG (w7 ĉ ÿ (D (sH (by simp)) (sG (sO (sG (B0 ĉ ÿ (D (sH (by simp)) (sO ?_)))))))))));dsimp only;refine D ((sH (jy.mpr (ig _))).trans (k8 ħ)) ?_;refine sG ?_
 first | refine sG (uI hit.typeIs (sO ?_)) | refine sG (vq hit.typeIs (sO ?_))
 refine sG (B9 hit.typeIs (?_:td _ _ (setField (.ref a) 1 (rawInt (i+1)) >>=_) _ _ s'));refine sG (wpAny_setField ho hd (by simp) ?_)
 have SB:(s'.heap.update a (Obj.mapFields (·.setIfInBounds 1 (rawInt (i+1))))).IsKeyIter a d (i+1) es.size t:=
  (tC _ (kH _ ho (Obj.isFreed_of_fields (Obj.data_mapFields hd _))) ((Obj.cls_mapFields ..).trans hc) (by refine D (Obj.data_mapFields hd _) ?_;simp[rawInt]))
 exact sG (uf (sG (B9 (s:={s' with heap:=s'.heap.update a (Obj.mapFields (·.setIfInBounds 1 (rawInt (i+1))))}) SB.typeIs (sO (sO (ti _ H (sO (hQ _ SB (jQ ..)))))))))
theorem Sk{am:sR->s8->Prop}{es:uX uo}{Q:sF sR->s8->Prop}(hh:A.handled=sD)(hit:s'.heap.IsKeyIter g d i es.size t)(ĉ:s'.heap.get? d=J od)(ÿ:od.data=.dict es t)(R':es.size<=i)
  (hQ:∀h',Heap.ExtBut g s'.heap h'->Q sD {s' with heap:=h'}):td C.aw A (Hj (.ref g)) Q am s':=by
 refine tW (id hit) λo ho hc hd=>sG (wpAny_attempt (vB (name:=mE "__next__") hit.typeIs F.slot_dict_keyiterator_next
  (uV F.slot_dict_keyiterator_next hit.typeIs F.entry_dict_keyiterator_next ?_ (F.args_dict_keyiterator_next_1 _))))
 refine sG (sO (sG (sG ?_)))
 first | refine sG (uI hit.typeIs (sO ?_)) | refine sG (vq hit.typeIs (sO ?_))
 refine sG (wpAny_fieldsOf ho hd (D (sH (by decide)) (?_:td _ _ (if (kb d==lU)=pH then _ else _) _ _ s')));refine D (sH (show ¬ ((kb d==lU)=pH) from iw)) (sG (sO (sG (w7 ĉ ÿ (D (sH (by simp)) (sG (sO (sG (B0 ĉ ÿ (D (sH (by simp)) (sO ?_)))))))))));dsimp only;refine D ((sH (jy.mpr (ig _))).trans (uX.getElem?_eq_none R')) ?_;refine sG ?_
 first | refine sG (uI hit.typeIs (sO ?_)) | refine sG (vq hit.typeIs (sO ?_))
 refine(?_:td _ _ (setField (.ref g) 0 .none >>=_) _ _ s');refine sG (wpAny_setField ho hd (by simp) (?_:td _ _ (newExc (.type "StopIteration") [] >>=_) _ _ _));refine sG (sG (uc ?_ (by size_fits)));refine sG (m:=firstArgMember _ _) (wpAny_of_eq (a:=lU) (by first | rfl | (simp only[firstArgMember];rfl)) (uc ?_ (by size_fits)));refine sG (wpAny_handled (D (show A.in1.handled=sD from hh) (sG (sO (wpAny_throw ?_)))));refine sG (wpAny_isInstance (T:="StopIteration") (b:=pH) (ti _ (iW _ H) H) isSubtype_stop ?_);exact sO (hQ _ (((jQ ..).extBut.push _).push _))
theorem P1{xs:V (V LA×sE×sR)}{kv:LV×LV}(r:yh h Zy xs):Zy[i]?=J kv->∃y,xs[i]?=J y/\tH h kv.1 (.ref y.2.1):=
 yh.ind (P:=λZy xs=>∀i,Zy[i]?=J kv->∃y,xs[i]?=J y/\tH h kv.1 (.ref y.2.1)) (λø=>z9) (λkv' ø x ø a b ø ih i e=>by
  cases i with
  | zero=>exact ti x H (gv e▸D a b)
  | succ i=>exact ih i e) r i
theorem vY.raw(r:vY prog e7 h d Zy):∃o es ep,h.get? d=J o/\o.ExactDict/\o.data=.dict es ep/\R Zy=es.size/\∀(i:M) (hi:i<es.size) kv,Zy[i]?=J kv->tH h kv.1 es[i].key:=by
 rcases r with ⟨ks,⟨o,es,ep,g,x,dd,kk,pp,nn⟩,r⟩ | ⟨xs,⟨o,es,ep,g,x,dd,q1,q2,q3⟩,r⟩
 .refine(tq o es ep g x dd ?_ (λi hi kv e=>?_))
  .refine D (Fd r) (tj (Pairs.length pp) ?_);simp
  .have e1:(Zy.map (·.1))[i]?=J kv.1:=by refine D (gG) (D e ?_);rfl
   rw[(He r),gG]at e1;refine s9 (gR.mp e1) λp hp hp2=>?_
   have:=(pp.get? (e:=es[i]) (by simp[hi]) hp).1;exact tj hp2 (xE (kW this) λt ht=>⟨t,ht⟩)
 .refine(tq o es ep g x dd ?_ (λi hi kv e=>?_))
  .refine D (Fe r) ?_;have:=sJ jr q1;simpa using this.symm
  .refine s9 (P1 r e) λy hy e1=>?_
   have e2:=by
    have:=entry_at q1 i;rw[hy,k8 hi]at this;exact gv this
   exact D e2 e1
theorem Av.dict(bi:A.handled=sD){es:uX uo}(hd:od.data=.dict es m)(hn:X=es.size):Av C A (L.Ê d od Zy) a (λi h=>h.IsKeyIter a d i X m) where
 at_:=λi h q=>MJ q (by decide)
 keep:=λi h h' q k ø=>JG q k
 item:=λi st s lv Q rC hit no e k=>by
  unfold L.Ê at e
  split at e
  .rename_i hl
   refine xA (rC.rep.obj _ _ hl) λg r=>vz (vY.raw r) λo' ò ep' g' x pt hlen hr=>?_
   obtain rfl:=gv (g.symm.trans g');rw[hd]at pt;(refine xA (oF pt) λe8 e9=>?_;subst e8;subst e9)
   (refine s9 (gR.mp (gv e)) λkv SC e9=>?_;subst e9)
   have hi:i<es.size:=tj hlen ((gB.mp SC).1);subst hn;exact Sj hit g hd hi λh' SB hs=>k _ h' s.toks (hr i hi kv SC) SB λb od q g=>(hs.2 b q).trans g
  .exact uH e
 done:=λi st s Q rC hit no e k=>by
  unfold L.Ê at e
  split at e
  .rename_i hl
   refine xA (rC.rep.obj _ _ hl) λg r=>vz (vY.raw r) λo' ò ep' g' x pt hlen hr=>?_
   obtain rfl:=gv (g.symm.trans g');rw[hd]at pt;(refine xA (oF pt) λe8 e9=>?_;subst e8;subst e9);subst hn;exact Sk bi hit g hd (tj hlen (jg.mp (nI.mp (gv e)))) λh' hs=>k h' s.toks λb od q g=>hs b od q g
  .exact uH e
 go:=λi t v s Q hit q=>C4 hit (by decide) q
 self:=λi s Q hit q=>wpAny_pyIter_keyiter hit q
noncomputable def WN(C:Cx)(A:vy)(st:LH)(s:s8)(K:Nx->LH->Prop)(it:sR)(s':s8):Prop:=
 ∃I E nx St,it=.ref I/\tV C E s'/\vV F0 st s.heap E s'.heap/\s.heap.get? I=sD/\¬ tT E I/\C.Off I/\Av C A nx I St/\St 0 s'.heap/\K nx E
noncomputable def Fi(C:Cx)(A:vy)(env:dL)(nm:V (sF ap))(t:Sem sR)(m:LI):Prop:=
 ∀ρ st s K,tV C st s->tG C env nm ρ st s.heap->m ρ st K->td C.aw A t (λx s1=>td C.aw A (pyIter x) (WN C A st s K) wV s1) wV s
noncomputable def Ct(C:Cx)(A:vy)(env:dL)(nm:V (sF ap))(Fa:sE->Prop)(target:bm)(t:LT):Prop:=
 (∀x,env.kindOf x≠J .free)->∀ρ jp st s lv v (Q:Unit->s8->Prop),t lv ρ=J jp->tH s.heap lv v->tV C st s->tG C env nm ρ st s.heap->
  (∀s',tV C st s'->tG C env nm jp st s'.heap->vV Fa st s.heap st s'.heap->Q () s')->td C.aw A (Hk target env v) Q wV s
theorem tV.Œ{t:M}(I:tV C E s')(no:¬ tT E l)(off:C.Off l)(T:tK s'.heap h')(k:∀b o,b≠l->s'.heap.get? b=J o->h'.get? b=J o) :
  tV C E {s' with heap:=h',toks:=t}:=by
 refine⟨⟨λa o e=>?_,I.rep.inj,I.rep.apart⟩,λa o e=>k a o (λq=>by rw[q,off.1]at e;exact uH e) (I.base a o e),I.own,I.gens,I.os⟩;have r:=I.rep.obj a o e;have ka:=(λb ow o e=>k b o (λq=>no (q▸ow)) e) a (.inl ⟨o,e⟩);cases o with
 | list vs=>exact t8 r λws n g z r=>(tU ws n (ka _ g) z (r.mono T))
 | dict Zy=>exact vY.at T ka r
 | frz o Zy=>exact⟨ka _ r.1,vY.at T ka r.2⟩
 | fin o vs=>(refine BV r λg ws n e r9=>xA r9 λz r=>?_);exact(DA (ka _ g) ws n e z (r.mono T))
 | inst c d fs=>
  exact BV r λg es n q r=>(G9 (ka _ g) es n ((λb ow o e=>k b o (λq=>no (q▸ow)) e) d (.inr (Dz a c fs e)) _ q) (xB T r))
theorem tV.ZZ{t:M}(I:tV C E s')(no:¬ tT E a)(off:C.Off a)(ex:∃o,s'.heap.get? a=J o/\o.cls≠.type "tuple")(k:∀b o,b≠a->s'.heap.get? b=J o->h'.get? b=J o) :
  tV C E {s' with heap:=h',toks:=t}/\tK s'.heap h':=by
 refine s9 ex λoe ge ce=>?_
 have T:tK s'.heap h':=λb d ws n sl e=>k b _ (λq=>by rw[q,ge]at e;obtain rfl:=gv e;exact ce H) e
 exact⟨I.Œ no off T k,T⟩
theorem tG.ZZ(F:tG C env Zw ρ s h)(nf:¬ FA env l)(T:tK h h')(k:∀b o,b≠l->h.get? b=J o->h'.get? b=J o):tG C env Zw ρ s h':=by
 have kf:∀b,FA env b->∀o,h.get? b=J o->h'.get? b=J o:=λb f o e=>k b o (λq=>nf (q▸f)) e
 refine⟨F.hk,F.glob,F.blt,F.ω,?_,?_,?_,F.d',F.apart,?_,F.free,F.off,F.uniq⟩
 .exact s9 F.loc λm n r=>⟨m,dQ n (kf _ (.inl H)),λi x lv a b c=>s9 (r i x lv a b c) λv e g=>⟨v,e,g.mono T⟩⟩
 .intro i x lv a b c;exact t8 (F.ψ i x lv a b c) λd v e g r=>(tU d v e (wW g (kf _ (.inr ⟨x,e⟩))) (r.mono T))
 .intro i x a b;exact vX (F.φ i x a b) λc v e g=>(w1 c v e (wW g (kf _ (.inr ⟨x,e⟩))))
 .intro b f;exact s9 (F.ex b f) λo e n=>(ti o (kf b f o e) n)
theorem vV.ZZ(x:vV Fa s ó E h)(n:ó.get? a=sD)(k:∀b o,b≠a->h.get? b=J o->h'.get? b=J o):vV Fa s ó E h':=
 ⟨λb o e no nf=>k b o (λq=>by rw[q,n]at e;exact uH e) (x.keep b o e no nf),x.new,λb e=>by
  by_cases q:b=a
  .exact D q n
  .refine x.live b ?_;cases z:h.get? b with
   | none=>rfl
   | some o=>rw[k b o q z]at e;exact E9 e⟩
noncomputable abbrev Cu(C:Cx)(A:vy)(env:dL)(nm:V (sF ap))(Fa:sE->Prop)(fs:V (sR->Sem Unit))(as:V LV)(ρ jp:uZ):Prop:=∀{st:LH} {Q:Unit->s8->Prop} {vs:V sR} {s:s8},sY s.heap as vs->tV C st s->tG C env nm ρ st s.heap->(∀s',tV C st s'->tG C env nm jp st s'.heap->vV Fa st s.heap st s'.heap->Q () s')->td C.aw A (Ds fs vs) Q wV s
theorem L.R?(e:qG i j v ρ=J io):∃a b,v=f2 [a,b]/\io=(ρ.set i (J a)).set j (J b):=by
 cases v with
 | tup l=>cases l with
  | nil=>exact uH e
  | cons a l=>cases l with
   | nil=>exact uH e
   | cons b l=>cases l with
    | nil=>exact w1 a b H (gv e).symm
    | cons c l=>exact uH e
 | _=>exact uH e
namespace S
theorem t1{p:Pos}(hn:Zw[i]?=J (J nl))(hF:∀b,FS env nl b->Fa b):Ct C A env Zw Fa (.Name nl p) (qF i):=λnf ρ jp st s lv v Q e r I F h=>by
 obtain rfl:=gv e;exact uL (F.store I nf hn r λs' a b c=>h s' a b (c.mono hF))
theorem stores0:Cu C A env Zw Fa [] [] ρ ρ:=λ{st Q vs s} r I F h=>by
 cases vs with
 | nil=>exact wpAny_assignInOrder_none (h s I F (.refl ..))
 | cons=>exact r.elim
theorem Bz{f:sR->Sem Unit}{fs:V (sR->Sem Unit)}(nf:∀nl,env.kindOf nl≠J .free)(hn:Zw[i]?=J (J nl))(hF:∀b,FS env nl b->Fa b)
  (hf:∀{v:sR} {s:s8} {Q:Unit->s8->Prop},td C.aw A (storeName env nl v) Q wV s->td C.aw A (f v) Q wV s) (ih:Cu C A env Zw Fa fs ys (ρ.set i (J ZM)) io):Cu C A env Zw Fa (f::fs) (ZM::ys) ρ io:=λ{st Q vs s} r I F h=>by
 cases vs with
 | nil=>exact r.elim
 | cons v vs=>
  exact wpAny_assignInOrder_more (hf (F.store I nf hn r.1 λs1 I1 F1 x1=>ih (r.2.mono (x1.tup I.rep λb f=>(F.ex b f.fa).elim λo e=>by intro o' e' ws n;rw[e.1]at e';obtain rfl:=gv e';exact e.2 ws n)) I1 F1 λs2 I2 F2 x2=>h s2 I2 F2 ((x1.mono hF).trans x2)))
theorem stores{fs:V (sR->Sem Unit)}{as:V LV}(ok:Cu C A env Zw Fa fs as ρ io){Q:Unit->s8->Prop}{s:s8}(r:sY s.heap as cN)(I:tV C E s)(F:tG C env Zw ρ E s.heap)(h:∀s',tV C E s'->tG C env Zw io E s'.heap->vV Fa E s.heap E s'.heap->Q () s'):td C.aw A (Ds fs cN) Q wV s:=ok r I F h
theorem unpack{Q:Unit->s8->Prop}(hh:A.handled=sD)(ok:Cu C A env Zw Fa ((assignEach cA env).map (·.2)) vs ρ io)
  (hz:R (assignEach cA env)=R vs) (Y!:(assignEach cA env).findIdx? (·.1)=sD) (g:s3.heap.get? a=J ⟨.type "tuple",sD,.seq ws i,#[]⟩) (r:sY s3.heap vs ws.toList) (I:tV C E s3) (F:tG C env Zw ρ E s3.heap)
  (h:∀s',tV C E s'->tG C env Zw io E s'.heap->vV Fa E s3.heap E s'.heap->Q () s'):td C.aw A (Hk (.Tuple cA k pos) env (.ref a)) Q wV s3:=by
 refine wpAny_assign_Tuple hh (yS _ g H i H) (hz.trans r.len) Y! λh' hx=>?_
 have kk:∀b o,s3.heap.get? b=J o->h'.get? b=J o:=λb o e=>hx b o (jh (i7 e)) e
 exact ok (s:={s3 with heap:=h',toks:=s3.toks}) (r.mono (.of_keeps kk)) (I.grow kk) (F.ext (s':={s3 with heap:=h',toks:=s3.toks}) I (.of_keeps kk)) λs2 I2 F2 x2=>h s2 I2 F2 ((wi (.of_keeps kk)).trans x2)
theorem t2(hh:A.handled=sD){k}(hn:Zw[i]?=J (J nl))(hm:Zw[j]?=J (J name))(hF:∀b,FS env nl b->Fa b)(hG:∀b,FS env name b->Fa b):Ct C A env Zw Fa (.Tuple [.Name nl p1,.Name name tpos] k pos) (qG i j):=λnf ρ jp st s lv v Q e r I F h=>by
 obtain ⟨a,b,rfl,rfl⟩:=L.R? e
 .obtain ⟨T,ws,n,rfl,g,z,r⟩:=r;exact unpack hh (Bz nf hn hF (λh=>uL h) (Bz nf hm hG (λh=>uL h) stores0)) H rfl g r I F h
noncomputable abbrev wr(C:Cx)(env:dL)(nm:V (sF ap))(st:LH)(s:s8)(it:sE)(St:M->ds->Prop)(i:M)(io:uZ)(ZJ:LH)(s3:s8):Prop:=tV C ZJ s3/\tG C env nm io ZJ s3.heap/\vV (FA env) st s.heap ZJ s3.heap/\St i s3.heap/\¬ tT ZJ it
def wr.inv(h:wr C env Zw E s' a fh i io ZJ s3):=h.1
def wr.fr(h:wr C env Zw E s' a fh i io ZJ s3):=h.2.1
def wr.ext(h:wr C env Zw E s' a fh i io ZJ s3):=h.2.2.1
def wr.at_(h:wr C env Zw E s' a fh i io ZJ s3):=h.2.2.2.1
def wr.xz(h:wr C env Zw E s' a fh i io ZJ s3):=h.2.2.2.2
theorem wr.item(W:Av C A nx a fh)(n0:s'.heap.get? a=sD)(off:C.Off a)(κ:¬ FA env a)(c:wr C env Zw E s' a fh i io ZJ s3){tk:M}(FB:fh j h')
  (k:∀b o,b≠a->s3.heap.get? b=J o->h'.get? b=J o):tK s3.heap h'/\wr C env Zw E s' a fh j io ZJ {s3 with heap:=h',toks:=tk}:=
 xA (c.inv.ZZ (t:=tk) c.xz off (W.at_ _ _ c.at_) k) λI T=>⟨T,I,c.fr.ZZ κ T k,c.ext.ZZ n0 k,FB,c.xz⟩
theorem Q!{b:V Stmt}{K:Uq->uZ->LH->Prop}{R1 R2:Flow->s8->Prop}{am:sR->s8->Prop}(W:Av C A nx a fh)
  (n0:s1.heap.get? a=sD) (off:C.Off a) (nf:∀x,env.kindOf x≠J .free) (κ:¬ FA env a) (ht:Ct C A env Zw (FA env) ea tg) (hb:v8 C A env Zw (BY b env) bb) (h1:∀s',BX C env Zw E s1 K .next s'->R1 .next s')
  (hn:∀f Sc GT s6,(f=.next\/f=.cont)->wr C env Zw E s1 a fh (i+1) Sc GT s6->qH nx tg bb X (i+1) Sc GT K->R2 f s6) (hbr:∀s',BX C env Zw E s1 K .next s'->R2 .brk s') (hr:∀v s',BX C env Zw E s1 K (.ret v) s'->R2 (.ret v) s')
  (c:wr C env Zw E s1 a fh i io ZJ s3) (k:qH nx tg bb (X+1) i io ZJ K):td C.aw A (Hj (.ref a)) (λr kt=>match r with
   | none=>td C.aw A (BY [] env) R1 am kt
   | some v=>td C.aw A (yu ea (.ref a) v) (λø g_=>td C.aw A (Hk ea env v) (λø s₃=>td C.aw A (BY b env) R2 am s₃) am g_) am kt) am s3:=by
 rcases k with ⟨Y',k⟩ | ⟨lv,ß,Y',c!,k⟩
 .exact wC (W.done i ZJ s3 _ c.inv c.at_ c.xz Y' λh' tk kk=>(xA (c.inv.ZZ (t:=tk) c.xz off (W.at_ _ _ c.at_) kk) λI T=>(BZ (h1 _ (tq .next io ZJ H I (c.fr.ZZ κ T kk) (c.ext.ZZ n0 kk) k)))))
 .refine wC (W.item i ZJ s3 lv _ c.inv c.at_ c.xz Y' λv h' tk rv FB kk=>xA (c.item W n0 off κ (tk:=tk) FB kk) λT c=>(wC (W.go _ ea v _ _ c.at_ (wC (ht nf io ß ZJ _ lv v _ c! (rv.mono T) c.inv c.fr λs5 I5 F5 x5=>wC (PX (hb nf ß ZJ s5 _ I5 F5 k) λf s6 fl Sc GT r6 I6 F6 x6 k6=>?_))))));have ŉ:=x5.trans x6
  have c6:wr C env Zw E s1 a fh (i+1) Sc GT s6:=⟨I6,F6,c.ext.trans ŉ,W.keep _ _ _ c.at_ (λo e=>ŉ.keep a o e c.xz κ) (ŉ.tup c.inv.rep λb f o e ws X q=>s9 (c.fr.ex b f) λo' e' n'=>n' ws X (gv (e.symm.trans e')▸q)),
   λq=>(ŉ.new a q).elim c.xz λq=>s9 (W.at_ _ _ c.at_) λo g ø=>E9 (g.symm.trans q)⟩
  cases fl with
  | next=>exact D (show f=.next from r6) (hn .next Sc GT s6 (.inl H) c6 k6)
  | cont=>exact D (show f=.cont from r6) (hn .cont Sc GT s6 (.inr H) c6 k6)
  | brk=>exact D (show f=.brk from r6) (hbr s6 (tq .next Sc GT H I6 F6 c6.ext k6))
  | ret v=>exact s9 r6 λw e r=>D e (hr w s6 (tq (.ret v) Sc GT (ti w H r) I6 F6 c6.ext k6))
theorem forI{it target:bm}{b:V Stmt}{pos:Pos}{mi:LI}{t:LT}{mb:LS}(hi:Fi C A env Zw (eval it env) mi)(ht:Ct C A env Zw (FA env) target t)(hb:v8 C A env Zw (BY b env) mb)
  (hs:∀x,uM it env x=pure x):v8 C A env Zw (exec (.For target it b [] pos) env) (qI mi t mb):=λnf ρ st s K I F k=>by
 refine wpAny_For ?_ hs;refine uB (hi ρ st s _ I F k) (λx s1 h1=>uB h1 (λitv s2 h=>?_) λø ø e=>e.elim) λø ø e=>e.elim
 refine xw h λit ZV nx St e I2 x2 n0 h=>Cg h λμ off W FB h=>xE h λn k2=>?_
 subst e;refine codeAny_forLoop_any (λn s3=>∃i io ZJ,wr C env Zw st s it St i io ZJ s3/\qH nx t mb n i io ZJ K) (λn s3 h=>vL h λi io ZJ c k=>?_) n ⟨0,ρ,ZV,⟨I2,F.ext I x2,wi x2,FB,μ⟩,k2⟩;cases n with
 | zero=>exact k.elim
 | succ n=>exact Q! W n0 off nf (λf=>s9 (F.ex it f) λo e ø=>uH (n0.symm.trans e):¬ FA env it) ht hb (λø h=>h) (λf Sc GT s6 hf c k=>hf.elim (λe=>D e ⟨n,iC n,i+1,Sc,GT,c,k⟩) λe=>D e ⟨n,iC n,i+1,Sc,GT,c,k⟩) (λø h=>h) (λø ø h=>h) c k
end S
theorem tV.Z8{o:Obj}{t:M}(I:tV C E s'):tV C E {s' with heap:=s'.heap.push o,toks:=t}/\vV F0 E s'.heap E (s'.heap.push o)/\s'.heap.get? s'.heap.objs.size=sD/\¬ tT E s'.heap.objs.size/\C.Off s'.heap.objs.size:=
 (Cj (I.grow (uC _ _)) (.of_keeps (uC _ _)) (AZ _) I.fresh (AY I))
theorem tV.swap(I:tV C E s')(h:E d=J o)(n:¬ Co o)(n':¬ Co o')(r:Hb C.prog C.aH C.at_ s'.heap d o'):tV C (ur E d o') s'/\vV F0 E s'.heap (ur E d o') s'.heap:=by
 exact s9 (I.rep.kind (.inl ⟨o,h⟩)) λob g ø=>(I.change (o':=o') (t:=s'.toks) h n n' (Heap.SameBut.refl ..) ⟨ob,g⟩ r)
namespace S
theorem over(n:M)(bi:Rm A n)(h:tA C A env Zw (eval ea env) mo):Fi C A env Zw (eval ea env) (qJ mo):=λρ st s K I F k=>by
 refine vf (h ρ st s _ I F k) λv s1 lv ZK r1 I1 x1 k1=>?_
 rcases k1 with ⟨vs,rfl,k1⟩ | ⟨l,vs,rfl,hl,k1⟩
 ·(refine t9 (id r1) λT ws n e9 g z r=>?_;subst e9)
  exact wpAny_pyIter_tuple (yS _ g H n H) (Cg (I1.Z8 (o:={cls:=.type "tuple_iterator",data:=.fields #[.ref T,.int 0 0]}) (t:=s1.toks)) λI2 x2 n2 μ off=>(vN _ ZK _ _ H I2 (x1.trans x2) (x1.live _ n2) (Cj μ off (Av.tup bi.hd (jh (i7 g))) ⟨(tC _ (iW _ H) H rfl),r1.mono (.of_keeps (uC _ _))⟩ k1)))
 .subst r1;exact tW (I1.list hl) λws hL r z=>wpAny_pyIter_list hL (Cg (I1.Z8) λI2 x2 n2 μ off=>(vN _ ZK _ _ H I2 (x1.trans x2) (x1.live _ n2) (Cj μ off (Av.list bi.hd) (tC _ (iW _ H) H rfl) k1)))
theorem overD(n:M)(bi:Rm A n)(h:tA C A env Zw (eval ea env) mo):Fi C A env Zw (eval ea env) (qK mo):=λρ st s K I F k=>by
 refine vf (h ρ st s _ I F k) λv s1 lv ZK r1 I1 x1 k1=>?_
 obtain ⟨d,Zy,rfl,hl,k1⟩:=k1;subst r1;have rd:=I1.rep.obj _ _ hl;obtain ⟨o,es,ep,g,x,hd,hlen,hr⟩:=vY.raw rd;refine Si (DC C I1 (.inl ⟨_,hl⟩)) g x hd ?_;obtain ⟨I2,x2⟩:=I1.swap (o':=Da o Zy) hl (λh=>h) (λh=>h) ⟨g,rd⟩;obtain ⟨I3,x3,n3,f_,off⟩:=I2.Z8;exact⟨_,_,_,_,H,I3,(x1.trans x2).trans x3,x1.live _ n3,f_,off,Av.dict bi.hd hd H,⟨_,iW _ H,H,H⟩,k1 o⟩
theorem thawed{t:Sem Flow}(h:v8 C A env Zw t bb):v8 C A env Zw t (qM bb):=λnf ρ st s K I F k=>by
 refine PX (h nf ρ st s _ I F k) λf s1 fl jp ZK r1 I1 F1 x1 k1=>s9 k1 λZV ht k2=>?_
 rcases ht with rfl | ⟨d,o,Zy,hd,rfl⟩
 .exact(tq fl jp _ r1 I1 F1 x1 k2)
 .exact xA (I1.swap (o':=f8 Zy) hd (λh=>h) (λh=>h) (I1.rep.obj _ _ hd).2) λI2 x2=>(tq fl jp _ r1 I2 (F1.ext I1 x2) (x1.trans (wi x2)) k2)
theorem i!(bi:A.handled=sD){t u v tk:M}{K:Nx->LH->Prop}(I:tV C ZK s3)(x:vV F0 ZJ h ZK s3.heap)(hs:oG d7 d8 d9=pH)(hn:lV d7 d8 d9=i)(k:K (qE d7 d9 i) ZK) :
  td C.aw A (pyIter (.ref s3.heap.objs.size)) (λit s'=>∃I E nx St,it=.ref I/\tV C E s'/\vV F0 ZJ h E s'.heap/\h.get? I=sD/\¬ tT E I/\C.Off I/\Av C A nx I St/\St 0 s'.heap/\K nx E) wV
   {s3 with heap:=s3.heap.push {cls:=.type "range",data:=.fields #[.int d7 t,.int d8 u,.int d9 v]},toks:=tk}:=by
 refine Cg (I.Z8 (o:={cls:=.type "range",data:=.fields #[.int d7 t,.int d8 u,.int d9 v]}) (t:=tk)) λI2 x2 n2 μ ah9=>wpAny_pyIter_range (IsRange.new _ _ _ _ _ _ _) hs (Cg (I2.Z8) λI3 x3 n3 f_ Z?=>(vN _ ZK _ _ H I3 ((x.trans x2).trans x3) (x.live _ (x2.live _ n3)) (Cj f_ Z? (Av.range bi) ?_ k)))
 have e2:i - (0:al)=lV d7 d8 d9:=by refine D hn ?_;simp
 exact D (by simp:d7+(0:al)*d9=d7) (D e2 (iW _ H))
theorem overR1(n:M)(bi:Rm A n)(hx:env.kindOf "range" = J .globalImplicit)(e0:nsIn C.aI sV "range" = J sD)(h:tA C A env Zw (eval ea env) mo)
  (he:sZ [ea] env=(Zt,eval ea env)::sZ [] env):Fi C A env Zw (eval (.Call (.Name "range" p1) [ea] [] pos) env) (qL mo):=λρ st s K I F k=>by
 refine Hi (blt I F hx e0 (v:=.type "range") (by decide +kernel) (by decide) ?_ (by decide));refine Pv.callWith_type1 (xD (vf (h ρ st s _ I F k) λv s1 lv ZK r1 I1 x1 k1=>Eo ?_) he) he
 (refine yf k1 λq e9 Ps hq k2=>?_;subst e9)
 exact Ea v r1 λt=>call_range_1 (i! bi.hd I1 x1 (small_one (ig _) (ig _) (lW (by decide) Ps) (lX hq (by decide))) ((rangeSize_one _ _).trans (if h:0<q then (sI h).trans ((Int.sub_zero q).trans (lR (mG h)).symm) else (sH h).trans (sJ jz (Int.toNat_of_nonpos (jy.mp h)).symm)):lV 0 q 1=q.toNat) k2)
theorem æ(n:M)(bi:Rm A n)(hx:env.kindOf "range" = J .globalImplicit)(e0:nsIn C.aI sV "range" = J sD)(ha:tA C A env Zw (eval ea env) ma)(hb:tA C A env Zw (eval eb env) mb)(hc:tA C A env Zw (eval ec env) mo)
  (he:∀e∈[ea,eb,ec],∀r,sZ (e::r) env=(Zt,eval e env)::sZ r env) (hp:(uO pos (sZ [eb,ec] env)).any (·.1)=Zt):Fi C A env Zw (eval (.Call (.Name "range" p1) [ea,eb,ec] [] pos) env) (L.æ ma mb mo):=λρ st s K I F k=>by
 refine Hi (blt I F hx e0 (v:=.type "range") (by decide +kernel) (by decide) ?_ (by decide));refine Pv.callWith_type1 (xD (vf (ha ρ st s _ I F k) λva s1 la ZK r1 I1 x1 k1=>?_) (he ea (by simp) _)) (he ea (by simp) _) hp;refine xD (vf (hb ρ ZK s1 _ I1 (F.ext I x1) k1) λvb s2 lb ZV r2 I2 x2 k2=>?_) (he eb (by simp) _);refine xD (vf (hc ρ ZV s2 _ I2 ((F.ext I x1).ext I1 x2) k2) λvc s3 lc ZJ r3 I3 x3 k3=>Eo ?_) (he ec (by simp) _);obtain ⟨q,rfl,rfl,rfl,h0,h1,k4⟩:=k3;refine Ea va r1 λta=>Ea vb r2 λtb=>Ea vc r3 λtc=>call_range_3 (by decide) ?_ (.inl (PyProof.noPylong_small (by decide)))
 have ζ:lV q (-1) (-1)=((q.toNat+1:M):al):=by
  unfold lV;rw[sH (by decide),sI (by exact h0),show -(-1:al)=1 by decide,Int.ediv_one,Int.sub_add_cancel];exact sJ (· + 1) (lR h0).symm
 refine i! bi.hd I3 ((x1.trans x2).trans x3) ?_ ζ k4;unfold oG;refine D ζ ?_;simp only[Ac.Range.rangeFitsLong,jn,jo,ud,uP];exact⟨⟨⟨⟨⟨lW (by decide) h0,lX h1 (by decide)⟩,by decide⟩,by decide⟩,⟨lW (by decide) (ig _),D (show((q.toNat+1:M):al)=q+1 from sJ (· + 1) (lR h0)) (lX (Int.add_le_add_right h1 1) (by decide))⟩⟩,.inr (by decide)⟩
end S
noncomputable def De(C:Cx)(A:vy)(f:sR)(op:V LV->LP):Prop:=
 ∀as vs st s K,tV C st s->sY s.heap as vs->op as st K->td C.aw A (j9 f vs) (tI C st s K) wV s
namespace L
noncomputable def len(as:V LV):LP:=λst K=>∃x vs,as=[x]/\Sq st x vs/\K (f0 (R vs)) st
noncomputable def listOf(as:V LV):LP:=λst K=>∃x vs,as=[x]/\Sq st x vs/\R vs<=th/\∀c,st c=sD->K (Y c) (ur st c (f1 vs))
noncomputable def tupOf(as:V LV):LP:=λst K=>∃x vs,as=[x]/\(x=f2 vs\/∃l,x=Y l/\st l=J (f1 vs)/\R vs<=th)/\K (f2 vs) st
noncomputable def ī(st:LH)(x:LV)(vs:V LV):Prop:=Sq st x vs\/∃l Zy,x=Y l/\st l=J (f8 Zy)/\wu Zy=pH/\vs=Zy.map (·.1)
noncomputable def insI'(x:al):V al->V al
 | []=>[x]
 | y::r=>if x<=y then x::y::r else y::insI' x r
noncomputable def sortL:V al->V al
 | []=>[]
 | x::r=>insI' x (sortL r)
noncomputable def sorted(as:V LV):LP:=λst K=>∃x ns,as=[x]/\ī st x (ns.map f0)/\R ns<64/\∀c,st c=sD->K (Y c) (ur st c (f1 ((sortL ns).map f0)))
noncomputable def maxOf(as:V LV):LP:=λst K=>∃a b:al,as=[f0 a,f0 b]/\K (f0 (max a b)) st
noncomputable def ã(as:V LV):LP:=λst K=>∃a:al,as=[f0 a]/\K (f0 a.natAbs) st
end L
open _root_.Mine.L renaming len->qN,listOf->qO,tupOf->qP,insI'->qQ,sortL->qR,sorted->qS
theorem Ge:∀{vs:V sR},R fs=R vs->(∀(i:M) lv v,fs[i]?=J lv->vs[i]?=J v->tH h lv v)->sY h fs vs:=by
 induction fs with
 | nil=>intro vs hl _;cases vs with | nil=>exact trivial | cons=>exact(sN ke hl).elim
 | cons x fs ih=>intro vs hl k;cases vs with | nil=>exact(sN ke hl).elim | cons v vs=>exact⟨k 0 x v H rfl,ih (Nat.succ.inj hl) λi lv v a b=>k (i+1) lv v a b⟩
theorem K3:∀{ws:V sR},sY h (fp.map f0) ws->zc ws fp:=by
 induction fp with
 | nil=>intro ws r;cases ws with | nil=>exact .nil | cons=>exact r.elim
 | cons n fp ih=>intro ws r;cases ws with | nil=>exact r.elim | cons w ws=>exact eN w r.1 λt=>.cons _ _ (ih r.2)
theorem P2(x:zc cN fp):sY h (fp.map f0) cN:=by
 induction x with
 | nil=>exact trivial
 | cons n t _ ih=>exact⟨⟨t,H⟩,ih⟩
theorem NJ(h:hs<=d7):qQ hs (d7::fp)=hs::d7::fp:=sI h
theorem NK(h:¬ hs<=d7):qQ hs (d7::fp)=d7::qQ hs fp:=sH h
theorem Hl(x:al)(l:V al):(qQ x l).Perm (x::l):=by
 induction l with
 | nil=>exact .refl _
 | cons y r ih=>
  by_cases h:x<=y
  .exact D (NJ h) (.refl _)
  .exact D (NK h) ((ih.cons y).trans (.swap x y r))
theorem Hm(l:V al):(qR l).Perm l:=by
 induction l with
 | nil=>exact .refl _
 | cons x r ih=>exact(Hl x _).trans (ih.cons x)
theorem JH(x:al)(h:fp.Pairwise (·<=·)):(qQ x fp).Pairwise (·<=·):=by
 induction fp with
 | nil=>exact lY _ _
 | cons y r ih=>
  refine xA (jP.mp h) λh1 h2=>?_
  by_cases q:x<=y
  .exact D (NJ q) (jP.mpr ⟨λz hz=>(gX.mp hz).elim (λe=>D e q) λhz=>lW q (h1 z hz),h⟩)
  .exact D (NK q) (jP.mpr ⟨λz hz=>(gX.mp ((Hl x r).mem_iff.mp hz)).elim (λe=>D e (mG (Int.not_le.mp q))) (h1 z),ih h2⟩)
theorem JI(l:V al):(qR l).Pairwise (·<=·):=by
 induction l with
 | nil=>exact .nil
 | cons x r ih=>exact JH x ih
namespace S
theorem Ŏ(I:tV C E s')(r:tH s'.heap b vv)(h:Sq E b vs):∃a ws n c,vv=.ref a/\(c="list"\/c="tuple")/\s'.heap.get? a=J ⟨.type c,sD,.seq ws n,#[]⟩/\R vs=ws.size/\ws.size<=2 ^ 25/\sY s'.heap vs ws.toList:=by
 rcases h with rfl | ⟨l,rfl,hl⟩
 .exact t9 r λT ws m hv g z r1=>(vN T ws m _ hv (.inr H) g r1.len ⟨z,r1⟩)
 .exact t8 (I.rep.obj _ _ hl) λws m g z r1=>(vN l ws m _ r (.inl H) g r1.len ⟨z,r1⟩)
theorem len(_R:Rm A i):De C A (.builtin "len") qN:=λas vs st s K I r k=>by
 obtain ⟨x,ls,rfl,hx,k⟩:=k;obtain ⟨_,rfl,rv⟩:=r.inv1;obtain ⟨a,ws,m,c,rfl,hc,g,hl,z,_⟩:=Ŏ I rv hx;rw[hl]at k
 rcases hc with rfl | rfl
 .exact call_len_list (yS _ g H m H) (lX (jf.mpr z) (by decide)) (.int I k)
 .exact PyProof.Rows.len_tuple (yS _ g H m H) (lX (jf.mpr z) (by decide)) (.int I k)
theorem listOf(_R:Rm A i):De C A (.type "list") qO:=λas vs st s K I r k=>by
 obtain ⟨x,ls,rfl,hx,hz,k⟩:=k;obtain ⟨_,rfl,rv⟩:=r.inv1;obtain ⟨a,ws,m,c,rfl,hc,g,hl,z,r1⟩:=Ŏ I rv hx;refine call_list_seq a (hc.imp id id) g H rfl (λh' c' kk hn=>?_) (hl▸hz);obtain ⟨I',x⟩:=I.alloc (o:=f1 ls) kk (AZ _) (AY I) (λh=>h) I.fresh (tU ws c' hn z (r1.mono (.of_keeps kk)));exact⟨Y _,_,H,I',x,k _ I.ZX⟩
theorem tupOf(_R:Rm A i):De C A (.type "tuple") qP:=λas vs st s K I r k=>by
 obtain ⟨x,ls,rfl,hx,k⟩:=k;obtain ⟨_,rfl,rv⟩:=r.inv1
 rcases hx with rfl | ⟨l,rfl,hl,hz⟩
 .obtain ⟨a,ws,m,rfl,g,z,r1⟩:=rv;exact call_tuple_same ⟨_,g,H,m,H⟩ (.same (lv:=f2 ls) I ⟨a,ws,m,H,g,z,r1⟩ k)
 .subst rv;obtain ⟨ws,m,g,z,r1⟩:=I.rep.obj _ _ hl;refine call_tuple_list ⟨_,g,H,m,H⟩ (λh' kk=>?_) ((r1.u8.trans iR)▸hz);exact tI.from (vV.of_keeps kk) (tI.ç (I.grow kk:tV C st {s with heap:=h',toks:=s.toks}) (r1.mono (.of_keeps kk)) z k)
theorem maxOf(bi:Rm A i):De C A (.builtin "max") L.maxOf:=λas vs st s K I r k=>by
 obtain ⟨a,b,rfl,k⟩:=k;obtain ⟨_,_,rfl,⟨ta,rfl⟩,tb,rfl⟩:=r.inv2;refine max_two_ints bi.hd λh' tk kk=>⟨f0 (max a b),st,?_,I.grow kk,.of_keeps kk,k⟩
 by_cases h:b > a
 .exact D (sI h) (D (Int.max_eq_right (mG h)) ⟨_,H⟩)
 .exact D (sH h) (D (Int.max_eq_left (jy.mp h)) ⟨_,H⟩)
theorem ã(_R:Rm A i):De C A (.builtin "abs") L.ã:=λas vs st s K I r k=>by
 obtain ⟨a,rfl,k⟩:=k;obtain ⟨_,rfl,ta,rfl⟩:=r.inv1;refine call_abs_int λu tk=>⟨f0 a.natAbs,st,?_,I.toks tk,.refl ..,k⟩
 by_cases h:a<0
 .exact D (sI h) ⟨u,sJ (mH · u) (Int.ofNat_natAbs_of_nonpos (mG h)).symm⟩
 .exact D (sH h) ⟨u,sJ (mH · u) (Int.natAbs_of_nonneg (jy.mp h)).symm⟩
theorem Q_{s:s8}{am:sR->s8->Prop}
  (hc:td C.aw A.in1 (collect vv) (λvs s1=>R vs<64/\∃ns,zc vs ns/\∀h' out e,(∀b o,s1.heap.get? b=J o->h'.get? b=J o)->h'.get? s1.heap.objs.size=J (seqObj "list" out e)->
   zc out.toList (qR ns)->Q₁ (.ref s1.heap.objs.size) {s1 with heap:=h'}) am s):td C.aw A (j9 (.builtin "sorted") [vv]) Q₁ am s:=by
 refine Calls.call_function_entry kind_sorted plain_sorted entry_sorted (args_sorted1 _) (sG (sO (sG (uB hc (λvs s1 q=>?_) λø ø e=>e))));refine Mz q λõ ns hI hQ=>sG (wpAny_newList ?_)
 refine sG (uf (uV slot_list_sort (ti _ (iW _ H) H) entry_list_sort (list_sort_tree (iW _ H) hI õ λout Ę a1 a2 a3=>(ti _ H ?_)) (args_list_sort _)));refine xE (sortedHeap_at (out:=out) (iW _ H)) λe he=>sO (ti _ H (hQ _ out e (λb o hb=>?_) he ((ksm_same (a2.trans (Hm ns).symm) a3 (JI ns))▸a1)))
 have lt:=i7 hb;exact D (sortedHeap_old (jh lt) (D (nM _ _) (ja lt))) (jH _ hb)
theorem sorted(bi:Rm A t):De C A (.builtin "sorted") qS:=λas vs st s K I r k=>by
 obtain ⟨x,ns,rfl,hc,õ,k⟩:=k;obtain ⟨v,rfl,rv⟩:=r.inv1
 have fin:∀{ws:V sR} {h1:ds} {tk:M},sY h1 (ns.map f0) ws->(∀b o,s.heap.get? b=J o->h1.get? b=J o)->R ws<64/\∃ns,zc ws ns/\∀h' out e,(∀b o,h1.get? b=J o->h'.get? b=J o)->h'.get? h1.objs.size=J (seqObj "list" out e)->
   zc out.toList (qR ns)->tI C st s K (.ref h1.objs.size) {s with heap:=h',toks:=tk}:=λ{ws h1 tk} r1 k1=>by
  have I1:tV C st {s with heap:=h1,toks:=tk}:=I.grow k1;refine⟨(K3 r1).length.symm▸õ,(ti ns (K3 r1) (λh' out e kk Y' ho=>?_))⟩;obtain ⟨I2,x2⟩:=I1.alloc (o:=f1 ((qR ns).map f0)) kk (AZ _) (AY I1) (λh=>h) I1.fresh (tU out e Y' (tj iR (D (@zc.length _ _ ho) (D ((Hm ns).length_eq) (iG (mI õ (by decide))))):out.size<=2 ^ 25) (P2 ho));exact⟨Y _,_,H,I2,(vV.of_keeps k1).trans x2,k _ I1.ZX⟩
 have hz:∀{m:M},R (ns.map f0)=m->m<=th:=λh=>tj h (D (gy _) (D sS (tY [64,16777216] 0x4240900120422 H õ)))
 refine Q_ ?_
 rcases hc with hc | ⟨l,Zy,rfl,hl,hk,hv⟩
 ·(refine xw (Ŏ I rv hc) λa ws m c e9 hc g hl r9=>xA r9 λz r1=>?_;subst e9)
  exact wpAny_collect_seq a (hc.imp id id) g H rfl (λh' kk=>fin (r1.mono (.of_keeps kk)) kk) (hz hl)
 .subst rv;refine s9 (vY.â (I.rep.obj _ _ hl) hk) λks hd r1=>xE hd.dictAt λep Z6=>kdu_collect (kdl_dict (DC C I (.inl ⟨_,hl⟩))) bi.hd Z6 (hz (D hv (D (gy _) (Fd r1)))) λh' tk acc kk xL=>fin ?_ kk
  refine D hv (D (He r1) (Ge (D (gy _) (D iR xL.1.symm)) λi lv v e1 e2=>(vX (xL.2 i v (by refine tj (lP) ?_;exact e2)) λkx xx hx hxx=>?_)));rw[gG,hx]at e1;obtain rfl:=gv e1;exact kW hxx
end S
namespace L
noncomputable def isList(st:LH)(x:LV):Prop:=∃l vs,x=Y l/\st l=J (f1 vs)
noncomputable def isDict(st:LH)(x:LV):Prop:=∃l vs,x=Y l/\st l=J (f8 vs)
noncomputable def callB(P:LH->LV->Prop)(op:V LV->LP)(o:LE)(as:Mr):LE:=λρ st K=>o ρ st λx s1=>P s1 x/\as ρ s1 λxs s2=>op (x::xs) s2 K
noncomputable def append(as:V LV):LP:=λst K=>∃l v vs,as=[Y l,v]/\st l=J (f1 vs)/\R vs<=2 ^ 24 - 1/\K .none (ur st l (f1 (vs++[v])))
noncomputable def extend(as:V LV):LP:=λst K=>∃l b vs us,as=[Y l,b]/\st l=J (f1 vs)/\(b=f2 us\/∃c,b=Y c/\st c=J (f1 us))/\R vs+R us<=2 ^ 24/\K .none (ur st l (f1 (vs++us)))
noncomputable def pop(as:V LV):LP:=λst K=>∃l vs v,as=[Y l]/\st l=J (f1 (vs++[v]))/\R vs+1<=2 ^ 24/\K v (ur st l (f1 vs))
noncomputable def ä:V LV->sF (V ap)
 | []=>J []
 | g3 i::r=>(ä r).map (i::·)
 | _=>sD
noncomputable def index(as:V LV):LP:=λst K=>∃l x vs xs,as=[Y l,g3 x]/\st l=J (f1 vs)/\ä vs=J xs/\x∈xs/\K (f0 (xs.idxOf x:M)) st
noncomputable def dictGet(as:V LV):LP:=λst K=>∃l i d Zy,as=[Y l,i,d]/\st l=J (f8 Zy)/\Bw Zy i/\K ((v5 Zy i).getD d) st
noncomputable def setDefault(as:V LV):LP:=λst K=>∃(l:sE) (ks:V LA) (d:LV) (Zy:V (LV×LV)),as=[Y l,f2 (ks.map LA.lv),d]/\st l=J (f8 Zy)/\vG Zy=pH/\R Zy<=th/\
 (∀v,v5 Zy (f2 (ks.map LA.lv))=J v->K v st)/\(v5 Zy (f2 (ks.map LA.lv))=sD->K d (ur st l (f8 (Zy++[(f2 (ks.map LA.lv),d)]))))
end L
open _root_.Mine.L renaming isList->qT,isDict->qU,callB->qV,append->qW,extend->qX,index->qY,dictGet->qZ,setDefault->q8
theorem dZ{us:V LV}{ws:uX sR}{n:M}{f:uX sR->uX sR}{lv:LV}{v:sR}{K:LV->LH->Prop}{t:M}(I:tV C E s')(hl:E l=J (f1 vs))(g:s'.heap.get? l=J {cls:=.type "list",dict:=sF.none,data:=.seq ws n,slots:=#[]})
  (hz:(f ws).size<=2 ^ 25) (r:sY s'.heap us (f ws).toList) (rv:tH s'.heap lv v) (k:K lv (ur E l (f1 us))):tI C E s' K v {s' with heap:=s'.heap.update l (Obj.mapSeq f),toks:=t}:=by
 have hs:ju l s'.heap (s'.heap.update l (Obj.mapSeq f)):=jQ ..;have T:=Bs.tup I hl hs;exact xA (I.change (o':=f1 us) hl (λh=>h) (λh=>h) hs ⟨_,(kH (Obj.mapSeq f) g H)⟩ (tU _ _ (kH (Obj.mapSeq f) g H) hz (r.mono T))) λI' x=>(uY lv _ (rv.mono T) I' x k)
namespace S
theorem callB{o:bm}{name:ap}{apos pos:Pos}{as:V bm}{T id:String}{P:LH->LV->Prop}{op:V LV->LP}{mo:LE}{m:Mr}(pa:PlainAttrs T)(slot:Slot T name id)(hty:typeOf (.builtin id)=pure (.type "method_descriptor"))(J!:De C A (.builtin id) op)
  (hP:∀st s x v,tV C st s->tH s.heap x v->P st x->s.TypeIs v T/\∀a,v=.ref a->∃ob,s.heap.get? a=J ob/\ob.dict=sD)
  (ho:tA C A env Zw (eval o env) mo) (ha:BW C A env Zw (wt (uO pos (sZ as env))) m) (hn:as=[]->m=pK) (hp:(uO pos (sZ as env)).any (·.1)=Zt)
  (he:∀e r,as=e::r->sZ (e::r) env=(Zt,eval e env)::sZ r env)
  (V?:Au o name env (eval o env)=eval o env)
  (Τ:((uO pos (sZ as env)).all (λx=>!x.1)&&(backToKw pos (keywordEach [] env)).all (λx=>x.1.isSome)
   &&decide (R as+R ([]:V Keyword)+(if ([]:V Keyword).isEmpty then 0 else 1)<30))=pH)
  (V_:(apos.endLine==pos.line)=pH):tA C A env Zw (eval (.Call (.Attribute o name apos) as [] pos) env) (qV P op mo m):=λρ st s K I F k=>by
 refine wpAny_Call_method V? Τ V_ pa slot hty (vf (ho ρ st s _ I F k) λvo s1 lo ZK r1 I1 x1 k1=>(xA k1 λhp1 k1=>(xA (hP ZK s1 lo vo I1 r1 hp1) λhT hd=>(uS hT hd ?_))));cases as with
 | nil=>
  rw[hn H]at k1;exact callWith_builtin H (evalArgs_nil3 (AW (J! [lo] [vo] ZK s1 K I1 ⟨r1,trivial⟩ k1) x1))
 | cons e rest=>
  have ý:=ha ρ ZK s1 _ I1 (F.ext I x1) k1;rw[(he e rest H)]at ý hp ⊢;exact callWith_builtin hp (evalArgs_plain (IQ ý λvs s2 BT ZV r2 I2 x2 k2=>(AW (J! (lo::BT) (vo::vs) ZV s2 K I2 ⟨r1.mono (x2.wn I1.rep),r2⟩ k2) (x1.trans x2))))
theorem isListP(I:tV C E s')(r:tH s'.heap b vv)(h:qT E b):s'.TypeIs vv "list"/\∀a,vv=.ref a->∃ob,s'.heap.get? a=J ob/\ob.dict=sD:=by
 (refine vX h λl vs e9 hl=>?_;subst e9)
 subst r;exact vX (I.rep.obj _ _ hl) λws n g ø=>⟨(ti _ g H),λa e=>by obtain rfl:=mF e;exact(ti _ g H)⟩
theorem j_(I:tV C E s')(r:tH s'.heap b vv)(h:qU E b):s'.TypeIs vv "dict"/\∀a,vv=.ref a->∃ob,s'.heap.get? a=J ob/\ob.dict=sD:=by
 (refine vX h λl vs e9 hl=>?_;subst e9)
 subst r;exact w5 (vY.raw (I.rep.obj _ _ hl)) λo es ep g b ø=>⟨(ti _ g b.1),λa e=>by obtain rfl:=mF e;exact(ti _ g b.2.1)⟩
theorem append(_R:Rm A i):De C A (.builtin "list.append") qW:=λas vs st s K I r k=>by
 obtain ⟨l,v,ls,rfl,hl,hz,k⟩:=k;obtain ⟨_,vv,rfl,rl,rv⟩:=r.inv2;subst rl;obtain ⟨ws,m,g,z,r1⟩:=I.rep.obj _ _ hl;refine wF F.slot_list_append ⟨_,g,H⟩ F.entry_list_append (F.args_list_append_2 _ _) (list_append l ws m vv (D sS (tD [16777215,16777216] 0x4240908508c0128403 H hz r1.len))) ⟨g,?_⟩;exact dZ I hl g (by rw[uX.size_push];exact tD [16777215,1,33554432] 0x41084800908508c0128403 H hz r1.len) (by rw[oH];exact r1.append (sY.one rv)) (lv:=.none) H k
theorem extend(_R:Rm A i):De C A (.builtin "list.extend") qX:=λas vs st s K I r k=>by
 have small:∀a b:M,a+b<=2 ^ 24->∀e:bn,¬(e&&mJ (a+b))=pH:=λa b h e=>by
  have:mJ (a+b)=Zt:=by unfold mJ;refine D sS ?_;simpa using h
  refine D this (D (nG _) ?_);simp
 obtain ⟨l,b,ls,us,rfl,hl,hb,hz,k⟩:=k;obtain ⟨_,vb,rfl,rl,rb⟩:=r.inv2;subst rl;obtain ⟨ws,m,g,z,r1⟩:=I.rep.obj _ _ hl
 have fin:∀{ο:uX sR} {t:M},sY s.heap us ο.toList->ws.size+ο.size<=2 ^ 24->tI C st s K .none {s with heap:=s.heap.update l (Obj.mapSeq λxs=>xs++ο),toks:=t}:=λ{ο t} r2 h=>
  dZ I hl g (by rw[nA];exact gA h (by decide)) (by rw[nz];exact r1.append r2) (lv:=.none) H k
 rcases hb with rfl | ⟨c,rfl,hu⟩
 ·(refine t9 rb λT ο m2 e9 g2 z2 r2=>?_;subst e9)
  rw[r1.len,r2.len]at hz;exact wF F.slot_list_extend (ti _ g H) F.entry_list_extend (F.args_list_extend_2 _ _) (AutoSeq1.list_extend_list_tuple_0 l ws m T ο m2 (small _ _ hz _) (D sS (tD [16777216] 0x9024004a400402 H hz)) (D sS (tD [16777216,16777217] 0x42520024004a400402 H hz))) (uS g g2 (fin r2 hz))
 .subst rb;refine t8 (I.rep.obj _ _ hu) λο m2 g2 z2 r2=>?_
  rw[r1.len,r2.len]at hz;exact wF F.slot_list_extend (ti _ g H) F.entry_list_extend (F.args_list_extend_2 _ _) (AutoSeq1.list_extend_list_list_0 l ws m _ ο m2 (small _ _ hz _) (D sS (tD [16777216] 0x9024004a400402 H hz)) (D sS (tD [16777216,16777217] 0x42520024004a400402 H hz))) (uS g g2 (fin r2 hz))
theorem pop(_R:Rm A i):De C A (.builtin "list.pop") L.pop:=λas vs st s K I r k=>by
 obtain ⟨l,ls,v,rfl,hl,hz,k⟩:=k;obtain ⟨_,rfl,rl⟩:=r.inv1;subst rl;obtain ⟨ws,m,g,z,r1⟩:=I.rep.obj _ _ hl;have hlen:=r1.len;rw[gK]at hlen;obtain ⟨_,y,hy,ry⟩:=r1.at (by refine D (il (gC _)) (D (iI _) ?_);rfl);have he:ws.size - 1=R ls:=tj hlen H;refine wF F.slot_list_pop ⟨_,g,H⟩ F.entry_list_pop (F.args_list_pop_1 _) (MeetsSeq.list_pop_last l ws m y (he▸hy) (D sS (tj hlen hz))) ⟨g,?_⟩
 have e1:(ws.eraseIdxIfInBounds (ws.size - 1)).toList=ws.toList.take (R ls):=by
  unfold uX.eraseIdxIfInBounds
  (refine D (dif_pos (tj hlen (iC _):ws.size - 1<ws.size)) (D uX.toList_eraseIdx (D (List.eraseIdx_eq_take_drop_succ _ _) (D he ?_)));rewrite[lZ];exact D (gY _) H)
  exact D iR (tj hlen (gC _))
 refine dZ I hl g ?_ ?_ ry k
 .have:=sJ jr e1;rw[iR]at this;exact D this (D iA (gA (iT ..) (D iR z)))
 .refine D e1 ?_;have:=r1.take (R ls);rw[nN]at this;exact this
theorem S_:∀{xs:V ap} {ws:V sR},L.ä vs=J xs->sY h vs ws->R xs=R ws/\∀(j:M) y,ws[j]?=J y->∃t x,xs[j]?=J x/\y=.str x t:=by
 induction vs with
 | nil=>intro xs ws e r;obtain rfl:=gv e;cases ws with | nil=>exact⟨H,λj y=>z9⟩ | cons=>exact r.elim
 | cons x q ih=>
  intro xs ws e r;cases ws with
  | nil=>exact r.elim
  | cons v t=>cases x with
   | str s=>
    refine vp xs (gR.mp e) λĘ h1=>xA (ih h1 r.2) λa b=>⟨sJ lN a,λj y e=>?_⟩
    cases j with
    | zero=>exact xE r.1 λtk e2=>w1 tk s H ((gv e).symm.trans e2)
    | succ j=>exact b j y e
   | none=>exact uH e
   | bool=>exact uH e
   | int=>exact uH e
   | tup=>exact uH e
   | ref=>exact uH e
theorem h?(x y:ap)(t:Tok):jZ x (.str y t)=b8 (y=x):=by
 refine AU jG ?_;simp[jZ]
theorem index(_R:Rm A X):De C A (.builtin "list.index") qY:=λas vs st s K I r k=>by
 obtain ⟨l,x,ls,xs,rfl,hl,hs,hm,k⟩:=k;obtain ⟨_,_,rfl,rl,t,rfl⟩:=r.inv2;subst rl;obtain ⟨ws,m,g,z,r1⟩:=I.rep.obj _ _ hl;obtain ⟨hlen,Z6⟩:=S_ hs r1;replace hlen:R xs=ws.size:=hlen.trans iR;have Gc:=List.idxOf_lt_length_iff.mpr hm;have O?:∀(q:M) (hq:q<ws.size),ws.toList[q]?=J ws[q]:=λq hq=>by refine D (lP) ?_;exact k8 hq
 have cond:∀(q:M) (hq:q<ws.size),jZ x ws[q]=b8 (xs[q]?=J x):=λq hq=>by
  obtain ⟨t',y,hy,e⟩:=Z6 q ws[q] (O? q hq)
  (refine D e (D hy ?_);rewrite[h?])
  exact t6.mpr ⟨λe=>D e H,λe=>gv e⟩
 refine wF F.slot_list_index ⟨_,g,H⟩ F.entry_list_index (F.args_list_index_2 _ _) (MeetsSeq.list_index l ws m (.str x t) (λy=>jZ x y) (λy hy=>?_) (xs.idxOf x) (hlen▸Gc) (by lia) ?_ λq hq ZY=>?_) ⟨g,.int I k⟩
 .obtain ⟨i,hi,e⟩:=uX.getElem_of_mem hy;refine vX (Z6 i y (tj e (O? i hi))) λt' z' hz' e2=>?_
  subst e2;refine λprog w A am s Q h=>wpAny_eqBool_str ?_
  rw[h?]at h;exact h
 .refine D (cond _ (hlen▸Gc)) (D (gM Gc) (D (List.getElem_idxOf Gc) ?_));exact sM H
 .refine D (cond _ hq) (D (gM (hlen▸hq)) ?_);have:=List.not_of_lt_findIdx ZY;refine sT λe=>?_
  rw[gv e,tJ]at this;exact tf this
theorem dictGet{n:M}(bi:Rm A n):De C A (.builtin "dict.get") qZ:=λas vs st s K I r k=>by
 obtain ⟨l,i,d,Zy,rfl,hl,hk,k⟩:=k;obtain ⟨_,vi,vd,rfl,rl,ri,rd⟩:=r.v?;subst rl;cases hk with
 | @int i hk=>
  obtain ⟨t,rfl⟩:=ri;obtain ⟨ks,hd,r1⟩:=vY.â (I.rep.obj _ _ hl) hk;have wl:(vt C.prog C.aH).is i (.int i t)=pH:=by simp[vt,jF]
  have q:=C3 (i:=i) r1;refine call_meetsIn F.slot_dict_get hd.typeIs F.entry_dict_get (F.args_dict_get_3 _ _ _) (meets_dict_get_default (vt C.prog C.aH) l wl (DC C I (.inl ⟨_,hl⟩)) vd) ⟨_,hd.mapOf,?_⟩;cases hg:v5 Zy (f0 i) with
  | some lv=>
   rw[hg]at q k;obtain ⟨x,hx,rx⟩:=q;exact D hx (.same I rx k)
  | none=>
   rw[hg]at q k;exact D q (.same I rd k)
 | @tup ks hk=>
  obtain ⟨xs,hd,r1⟩:=vY.á (I.rep.obj _ _ hl) hk;obtain ⟨a,rfl,wl⟩:=Ff ri;refine call_meetsIn F.slot_dict_get hd.typeIs F.entry_dict_get (F.args_dict_get_3 _ _ _) (meetsH_dict_get_default (knd:=t5 (tZ C.prog C.aH)) (d:=l) (a:=a) (DC C I (.inl ⟨_,hl⟩)) vd) ⟨(show A.units+1<Gd by exact tD [64,1] 0x1421200252802400422 H bi.line),ks,xs,wl,hd,?_⟩;have q:=A1 (k:=ks) r1;cases hg:v5 Zy (f2 (ks.map LA.lv)) with
  | some lv=>
   rw[hg]at q k;obtain ⟨p,hp,rx⟩:=q;exact D hp (.same I rx k)
  | none=>
   rw[hg]at q k;exact D q (.same I rd k)
theorem P?{am:sR->s8->Prop}{xs:V (V LA×sE×sR)}{k:V LA}{v:sR}(hu:A.units<Gd)(wl:(t5 (tZ C.prog C.aH)).is s'.heap k a)(hm:s'.heap.DictOfH (t5 (tZ C.prog C.aH)) d xs)
  (h1:∀p t,Hd xs k=J p->Q₁ p.2 {s' with toks:=t}) (h2:Hd xs k=sD->∀h' t,h'.DictOfH (t5 (tZ C.prog C.aH)) d (xs++[(k,a,v)])->ju d s'.heap h'->Q₁ v {s' with heap:=h',toks:=t}) (ζ:R xs<=th) :
  td C.aw A (Cv d (.ref a) v) Q₁ am s':=by
 refine C1 hm λo es ep ho hc hd he G? hn=>?_
 unfold Cv
 try with_reducible refine uf ?_
 refine sG ((t5 (tZ C.prog C.aH)).pyHash hu wl (sG (wpAny_dictFind_heap (s:={s' with toks:=s'.toks+(t5 (tZ C.prog C.aH)).draws k}) hu wl ho hd he G? hn ?_ ?_)))
 .intro Pi
  refine sG (wpAny_rule (sG (wpAny_updateDictKeys (hz:=by have e:=size_of_entries he;exact uy [] 0x5204862044530403 H ζ e) (s:={s' with toks:=s'.toks+(t5 (tZ C.prog C.aH)).draws k}) ho hd (sO (h2 (atKey_none_of_get Pi) _ _ (C2 _ _ (ep+1) (kH _ ho (Obj.isFreed_of_dict (Obj.data_mapDictKeys hd _)))
   (hc.mapDictKeys _) (Obj.data_mapDictKeys hd _) ?_ ?_ ?_) (jQ ..))))))
  .simp[he,entryOfKey]
  .intro x hx
   rcases gP.mp hx with hx | hx
   .exact(t5 (tZ C.prog C.aH)).keeps (G? x hx) ho hd (jQ ..)
   .simp only[gJ]at hx;subst hx;exact(t5 (tZ C.prog C.aH)).keeps wl ho hd (jQ ..)
  .refine D gF (AU iP (uS hn (by simp) ?_));intro x hx y hy;simp only[iN,List.map_nil,gJ]at hy;obtain rfl:=hy;exact λe=>(not_mem_keys_of_get Pi) (e▸hx)
 .exact λj p hj=>sG (w7 (s:={s' with toks:=s'.toks+(t5 (tZ C.prog C.aH)).draws k}) ho hd (D (entry_at he j) (D hj (sG (wpAny_rule (sO (h1 p _ (atKey_of_get hn hj))))))))
theorem setDefault{n:M}(bi:Rm A n):De C A (.builtin "dict.setdefault") q8:=λas vs st s K I r k=>by
 (refine xw k λl ks d Zy e9 hl h1 hz r9=>xA r9 λkS kN=>?_;subst e9)
 (refine t9 r.v? λø vi vd e9 rl ri rd=>?_;subst e9)
 subst rl;refine s9 (vY.á (I.rep.obj _ _ hl) h1) λxs hd r1=>?_
 (refine s9 (Ff (prog:=C.prog) (w:=C.aH) ri) λa e9 wl=>?_;subst e9)
 have q:=A1 (k:=ks) r1;refine uV F.slot_dict_setdefault hd.typeIs F.entry_dict_setdefault ?_ (F.args_dict_setdefault_3 _ _ _);refine sG (sG (B8 hd.typeIs (?_:td _ _ (pure (l,kb a,J vd)) _ _ s)));refine sO (?_:td _ _ (if (l==zj)=pH then _ else (Cv l (.ref a) vd >>=_)) _ _ s);refine D (sH (by exact D (DC C I (.inl ⟨_,hl⟩)) iw)) (sG (P? (show A.units+1<Gd by exact tD [64,1] 0x1421200252802400422 H bi.line) wl hd (λp t hp=>?_) (λhp h' t pt hs=>?_) (tj (Fe r1) hz)))
 .cases hg:v5 Zy (f2 (ks.map LA.lv)) with
  | none=>rw[hg]at q;exact uH (q.symm.trans hp)
  | some lv=>
   rw[hg]at q;refine s9 q λp' sn rx=>?_
   obtain rfl:=gv (hp.symm.trans sn);exact sO (ti p.2 H (.same I rx (kS _ hg)))
 .cases hg:v5 Zy (f2 (ks.map LA.lv)) with
  | some lv=>
   rw[hg]at q;exact s9 q λp' sn rx=>uH (hp.symm.trans sn)
  | none=>
   have T:=Bs.tup I hl hs;have put:=IU (DB T r1) (ri.mono T) (rd.mono T);rw[storedH_new hp,show Cp Zy (f2 (ks.map LA.lv)) d=Zy++[(f2 (ks.map LA.lv),d)] by unfold Cp B6;refine D hg ?_;rfl]at put;exact xA (I.change (o':=f8 (Zy++[(f2 (ks.map LA.lv),d)])) hl (λh=>h) (λh=>h) hs (vL pt λo ø ø g ø=>⟨o,g⟩) (.inr ⟨_,pt,put⟩)) λI' x=>sO (Ir vd H d (wU _ (rd.mono T) I' x (kN hg)))
end S
open _root_.Mine.S renaming isListP->q9
namespace L
noncomputable def compN(nx:Nx)(t:LT)(test:LB)(elt:LE):M->M->V LV->uZ->LH->(V LV->LH->Prop)->Prop
 | 0,_,_,_,_,_=>uF
 | n+1,i,acc,ρ,st,K=>(nx i st=J sD/\K acc st)\/∃v jp,nx i st=J (J v)/\t v ρ=J jp/\
   test jp st λb ZK=>if b then elt jp ZK λx ZV=>R acc<=2 ^ 24 - 1/\compN nx t test elt n (i+1) (acc++[x]) jp ZV K else compN nx t test elt n (i+1) acc jp ZK K
noncomputable def comp(mi:LI)(loc:M)(ld:V M)(t:LT)(test:LB)(elt:LE):LE:=λρ st K=>mi ρ st λnx s1=>∃n,compN nx t test elt n 0 [] (hU loc sD++ld.map λi=>(ρ[i]?).join) s1 λxs s2=>
 ∀c,s2 c=sD->K (Y c) (ur s2 c (f1 xs))
end L
open _root_.Mine.L renaming compN->rf,comp->rg
theorem MK{α β:Type}{f:α->β->Sem (zf β)}{g:β->α->β}{l:V α}:∀(c:β),(∀x∈l,∀c,f x c=pure (.yield (g c x)))->forIn l c f=pure (l.foldl g c):=by
 induction l with
 | nil=>exact λc ø=>rfl
 | cons x l ih=>
  intro c h
  (rewrite[List.forIn_cons];refine D (h x gI _) ?_)
  exact ih (g c x) λy hy=>h y (gH _ hy)
noncomputable def yT(cells:V (ap×sE))(cs:V (ap×sE))(x:ap×tM):V (ap×sE):=if x.2==.free then (match cells.lookup x.1 with | some a=>(x.1,a)::cs | none=>cs) else cs
theorem It(h:∀x∈cw.names,x.2=.free->(env.cells.lookup x.1).isSome):closureFor cw env=pure (cw.names.foldl (yT env.cells) []):=by
 show(forIn cw.names [] _ >>=pure)=_;rewrite[MK (g:=yT env.cells) (l:=cw.names) (c:=[]) (λx hx c=>?_)]
 .rfl
 .obtain ⟨n,k⟩:=x;unfold yT
  by_cases e:k=.free
  .subst e;refine xE (j5.mp (h _ hx H)) λa ha=>?_
   simp only[tJ,Aa,cellOf];exact D ha H
  .simp only[(by simpa using e:(k==tM.free)=Zt),oI,if_false]
theorem Vc{cells cs:V (ap×sE)}{m:ap}{k:tM}:(nl,a)∈yT cells cs (m,k)<->(nl,a)∈cs\/((nl,tM.free)=(m,k)/\cells.lookup nl=J a):=by
 by_cases e:k=.free
 .subst e;cases hc:cells.lookup m with
  | none=>exact D (show yT cells cs (m,.free)=cs by unfold yT;exact D hc H) ⟨.inl,λh=>h.elim id λh=>uH (hc.symm.trans (tj (iX h.1).1 h.2))⟩
  | some b=>exact D (show yT cells cs (m,.free)=(m,b)::cs by unfold yT;exact D hc H) (gX.trans (or_comm.trans (w8 ⟨λh=>xA (iX h) λe1 e2=>⟨sJ (·,tM.free) e1,D e1 (D e2 hc)⟩,λh=>ji (iX h.1).1 (gv (h.2.symm.trans (D (iX h.1).1 hc)))⟩)))
 .exact D (show yT cells cs (m,k)=cs from sH λq=>e (eq_of_beq q)) ⟨.inl,λh=>h.elim id λh=>(e (iX h.1).2.symm).elim⟩
theorem K4{cells:V (ap×sE)}{names:V (ap×tM)}{cs:V (ap×sE)}:(nl,a)∈names.foldl (yT cells) cs<->(nl,a)∈cs\/((nl,tM.free)∈names/\cells.lookup nl=J a):=by
 induction names generalizing cs with
 | nil=>exact⟨.inl,λh=>h.elim id λh=>uG h.1⟩
 | cons x r ih=>exact ih.trans ((or_congr_left (Vc (m:=x.1) (k:=x.2))).trans (or_assoc.trans (w8 (or_and_right.symm.trans (and_congr_left λø=>gX.symm)))))
theorem Gv{α:Type}{l:V (ap×α)}{a:α}(h:(nl,a)∈l):∃b,l.lookup nl=J b:=by
 induction l with
 | nil=>exact uG h
 | cons p r ih=>
  refine D kG ?_;cases e:nl==p.1 with
  | true=>exact⟨p.2,H⟩
  | false=>exact(gX.mp h).elim (λh=>ft (e.symm.trans (D (show nl=p.1 from sJ gS h) (tJ p.1)))) ih
theorem Gf{cells:V (ap×sE)}{names:V (ap×tM)}(h:(names.foldl (yT cells) []).lookup nl=J a):cells.lookup nl=J a:=by
 rcases K4.mp (wD h) with h | h
 .cases h
 .exact h.2
theorem P4{cells:V (ap×sE)}{names:V (ap×tM)}(h:(nl,tM.free)∈names)(hc:cells.lookup nl=J a):(names.foldl (yT cells) []).lookup nl=J a:=by
 refine xE (Gv (K4.mpr (.inr ⟨h,hc⟩):(nl,a)∈names.foldl (yT cells) [])) λb hb=>?_
 refine D (gv (hc.symm.trans (Gf hb))) ?_;exact hb
noncomputable def KH(scope:ye):ye:={scope with names:=scope.names.map λx=>if x.2==.free then (x.1,.cell) else x}
theorem ML(hk:env.scope.kind=.function)(h:∀x∈cw.names,x.2=.free->env.kindOf x.1=J .cell):relabel cw env=KH cw:=by
 unfold relabel KH
 congr 1
 refine k9 λx hx=>?_
 obtain ⟨n,k⟩:=x
 by_cases e:k=.free
 .subst e;have:=h _ hx H;simp[hk,this]
 .simp[(by simpa using e:(k==tM.free)=Zt)]
noncomputable def Fj(scope:ye)(loc ZD:V ap):bn:=
 scope.kind==.function&&scope.names.all (λx=>x.2==.local||x.2==.free||x.2==.globalImplicit)&&scope.names.all (λx=>if x.2==.local then scope.names.lookup x.1==J .local else pH)&&
 scope.names.all (λx=>if x.2==.free then ZD.contains x.1 else pH)&&
 loc.all (λx=>scope.names.lookup x==J .local&&!(x==("__debug__" : ap))&&!(x==("__classdict__" : ap)))&&
 ZD.all (λx=>scope.names.lookup x==J .free&&!(x==("__debug__" : ap))&&!(x==("__classdict__" : ap)))&&decide ((loc++ZD).map J).Nodup
theorem Fl{names:V (ap×tM)}:(names.map λnl=>if nl.2==.free then (nl.1,tM.cell) else nl).lookup nl=(names.lookup nl).map λk=>if k==.free then .cell else k:=by
 induction names with
 | nil=>rfl
 | cons p r ih=>
  obtain ⟨n,k⟩:=p;have e0:(if k==tM.free then (n,tM.cell) else (n,k))=(n,if k==tM.free then tM.cell else k):=by split<;>rfl
  refine D iN ?_;refine D e0 ?_;cases e:nl==n with
  | true=>simp only[kG,e,nO]
  | false=>simp only[kG,e];exact ih
theorem JJ(elt target iter:bm)(ifs:V bm)(scope:ye)(pos:Pos)(it acc:sR)(env:dL) :
  compTurn (.ListComp elt [⟨target,iter,ifs,0⟩] scope pos) 0 it acc env=(do
   Ef iter.pos
   match <- Hj it with
   | none=>pure (.done .next)
   | some v=>
    yu target it v
    Hk target env v
    let ok <- forIn ifs pH λc r=>if r=pH then do let ok <- uD c env (eval c env);pure (zf.yield ok) else pure (zf.yield r)
    if ok then
     (do let _ <- j9 (.builtin "list.append") [acc,<- eval elt env])
    again (.compLoop (.ListComp elt [⟨target,iter,ifs,0⟩] scope pos) 0 it acc env)):=by rfl
theorem tV.adopt(I:tV C E s')(no:¬ tT E c)(off:C.Off c)(ni:¬ Co o)(r:Hb C.prog C.aH C.at_ s'.heap c o):tV C (ur E c o) s':=by
 have hn:E c=sD:=by cases q:E c with | none=>rfl | some o=>exact(no (.inl ⟨o,q⟩)).elim
 refine⟨⟨λa x e=>?_,λa a' cl d fs Ĭ Ì e e'=>?_,λa cl d fs e=>?_⟩,I.base,λb q=>?_,I.gens,I.os⟩
 .by_cases q:a=c
  .obtain rfl:=q.symm;rw[te]at e;refine tj (gv e) ?_;exact r
  .rw[tR q]at e;exact I.rep.obj a x e
 .have q:a≠c:=λq=>by obtain rfl:=q.symm;rw[te]at e;obtain rfl:=gv e;exact ni trivial
  have q':a'≠c:=λq=>by obtain rfl:=q.symm;rw[te]at e';obtain rfl:=gv e';exact ni trivial
  rw[tR q]at e;rw[tR q']at e';exact I.rep.inj _ _ _ _ _ _ _ e e'
 .have q:a≠c:=λq=>by obtain rfl:=q.symm;rw[te]at e;obtain rfl:=gv e;exact ni trivial
  rw[tR q]at e;have q2:d≠c:=λq=>no (q▸.inr (Dz a cl fs e))
  exact D (tR q2) (I.rep.apart _ _ _ _ e)
 .rcases tT.upd ni (λc d fs e=>uH (hn.symm.trans e)) q with rfl | q
  .exact off
  .exact I.own b q
theorem vV.adopt(x:vV Fa s h' E h)(n:h'.get? c=sD)(ni:¬ Co o)(no:¬ tT E c):vV Fa s h' (ur E c o) h:=by
 have hn:E c=sD:=by cases q:E c with | none=>rfl | some o=>exact(no (.inl ⟨o,q⟩)).elim
 refine⟨x.keep,λb q=>?_,x.live⟩
 rcases tT.upd ni (λc d fs e=>uH (hn.symm.trans e)) q with rfl | q
 .exact .inr n
 .exact x.new b q
theorem vV.drop(x:vV dr s h E h')(n:∀b,dr b->h.get? b=sD):vV Fa s h E h':=
 ⟨λb o e no ø=>x.keep b o e no (λg=>by rw[n b g]at e;exact uH e),x.new,x.live⟩
noncomputable def vh(C:Cx)(A:vy)(env:dL)(nm:V (sF ap))(ifs:V bm)(m:LB):Prop:=∀(ρ:uZ) (st:LH) (s:s8) (K:bn->LH->Prop),tV C st s->tG C env nm ρ st s.heap->m ρ st K->td C.aw A (forIn ifs pH λc r=>if r=pH then do let ok <- uD c env (eval c env);pure (zf.yield ok) else pure (zf.yield r)) (KQ C st s K) wV s
theorem vh.none:vh C A env Zw [] pV:=λø ø ø ø I ø k=>wpAny_tests_nil (tC _ I (.refl ..) k)
theorem vh.one(h:wA C A env Zw (uD ea env (eval ea env)) mc):vh C A env Zw [ea] mc:=λø ø ø ø I F k=>wpAny_tests_one (h _ _ _ _ I F k)
theorem vh.wp(h:vh C A env Zw as mc)(I:tV C E s')(F:tG C env Zw ρ E s'.heap)(k:mc ρ E KB) :
  td C.aw A (forIn as pH λc r=>if r=pH then do let ok <- uD c env (eval c env);pure (zf.yield ok) else pure (zf.yield r)) (KQ C E s' KB) wV s':=h _ _ _ _ I F k
noncomputable abbrev uh(C:Cx)(st:LH)(s:s8)(ad Cl:sE)(acc:V LV)(E:LH)(s':s8):Prop:=tV C E s'/\vV F0 st s.heap E s'.heap/\s.heap.get? ad=sD/\s.heap.get? Cl=sD/\¬ tT E ad/\¬ tT E Cl/\ad≠Cl/\C.Off ad/\C.Off Cl/\Hb C.prog C.aH C.at_ s'.heap ad (f1 acc)/\∃m,s'.heap.Ns Cl m
def uh.inv(h:uh C ZJ s3 ad Cl vs E s'):=h.1
def uh.ext(h:uh C ZJ s3 ad Cl vs E s'):=h.2.1
def uh.nD(h:uh C ZJ s3 ad Cl vs E s'):=h.2.2.1
def uh.nC(h:uh C ZJ s3 ad Cl vs E s'):=h.2.2.2.1
def uh.oD(h:uh C ZJ s3 ad Cl vs E s'):=h.2.2.2.2.1
def uh.oC(h:uh C ZJ s3 ad Cl vs E s'):=h.2.2.2.2.2.1
def uh.ne(h:uh C ZJ s3 ad Cl vs E s'):=h.2.2.2.2.2.2.1
def uh.ê(h:uh C ZJ s3 ad Cl vs E s'):=h.2.2.2.2.2.2.2.1
def uh.ς(h:uh C ZJ s3 ad Cl vs E s'):=h.2.2.2.2.2.2.2.2.1
def uh.rep(h:uh C ZJ s3 ad Cl vs E s'):=h.2.2.2.2.2.2.2.2.2.1
def uh.ns(h:uh C ZJ s3 ad Cl vs E s'):=h.2.2.2.2.2.2.2.2.2.2
noncomputable abbrev uU(C:Cx)(ZI:dL)(s:s8)(ad Cl it:sE):Prop:=s.heap.get? it=sD/\s.heap.get? ad=sD/\s.heap.get? Cl=sD/\ad≠it/\Cl≠it/\ad≠Cl/\C.Off it/\C.Off ad/\C.Off Cl/\(∀x,ZI.kindOf x≠J .free)/\¬ FA ZI it/\¬ FA ZI ad/\ZI.locals=Cl
def uU.bL(h:uU C ZI s' ad Cl a):=h.1
def uU.nD(h:uU C ZI s' ad Cl a):=h.2.1
def uU.nC(h:uU C ZI s' ad Cl a):=h.2.2.1
def uU.û(h:uU C ZI s' ad Cl a):=h.2.2.2.1
def uU.ö(h:uU C ZI s' ad Cl a):=h.2.2.2.2.1
def uU.Î(h:uU C ZI s' ad Cl a):=h.2.2.2.2.2.1
def uU.off(h:uU C ZI s' ad Cl a):=h.2.2.2.2.2.2.1
def uU.ê(h:uU C ZI s' ad Cl a):=h.2.2.2.2.2.2.2.1
def uU.ς(h:uU C ZI s' ad Cl a):=h.2.2.2.2.2.2.2.2.1
def uU.nf(h:uU C ZI s' ad Cl a):=h.2.2.2.2.2.2.2.2.2.1
def uU.nfI(h:uU C ZI s' ad Cl a):=h.2.2.2.2.2.2.2.2.2.2.1
def uU.nfD(h:uU C ZI s' ad Cl a):=h.2.2.2.2.2.2.2.2.2.2.2.1
def uU.loc(h:uU C ZI s' ad Cl a):=h.2.2.2.2.2.2.2.2.2.2.2.2
noncomputable def WO(ad Cl it b:sE):Prop:=b=Cl\/b=ad\/b=it
noncomputable abbrev vj(C:Cx)(ZI:dL)(nm:V (sF ap))(st:LH)(s:s8)(ad Cl it:sE)(St:M->ds->Prop)(acc:V LV)(i:M)(io:uZ)(ZJ:LH)(s3:s8):Prop:=tV C ZJ s3/\tG C ZI nm io ZJ s3.heap/\vV (WO ad Cl it) st s.heap ZJ s3.heap/\St i s3.heap/\¬ tT ZJ it/\¬ tT ZJ ad/\∃ws m,s3.heap.get? ad=J ⟨.type "list",sD,.seq ws m,#[]⟩/\ws.size<=2 ^ 24/\sY s3.heap acc ws.toList
def vj.inv(h:vj C ZI Zw E s' ad Cl a fh vs i io ZJ s3):=h.1
def vj.fr(h:vj C ZI Zw E s' ad Cl a fh vs i io ZJ s3):=h.2.1
def vj.ext(h:vj C ZI Zw E s' ad Cl a fh vs i io ZJ s3):=h.2.2.1
def vj.at_(h:vj C ZI Zw E s' ad Cl a fh vs i io ZJ s3):=h.2.2.2.1
def vj.xz(h:vj C ZI Zw E s' ad Cl a fh vs i io ZJ s3):=h.2.2.2.2.1
def vj.Ú(h:vj C ZI Zw E s' ad Cl a fh vs i io ZJ s3):=h.2.2.2.2.2.1
def vj.lst(h:vj C ZI Zw E s' ad Cl a fh vs i io ZJ s3):=h.2.2.2.2.2.2
theorem vj.step(f:uU C ZI s1 ad Cl a)(W:Av C A nx a fh)(c:vj C ZI Zw ZK s1 ad Cl a fh vs i io ZJ s3)(x:vV Fa ZJ s3.heap E s'.heap)(T:tK s3.heap s'.heap)(hF:∀b,Fa b->b=Cl)
  (I':tV C E s') (F':tG C ZI Zw ρ E s'.heap):vj C ZI Zw ZK s1 ad Cl a fh vs i ρ E s':=
 ⟨I',F',c.ext.trans (x.mono λb h=>.inl (hF b h)),W.keep _ _ _ c.at_ (λo e=>x.keep a o e c.xz λh=>f.ö (hF a h).symm) T,
  λq=>(x.new a q).elim c.xz λe=>s9 (W.at_ _ _ c.at_) λo g ø=>(E9 (g.symm.trans e)),
  λq=>(x.new ad q).elim c.Ú λe=>t8 c.lst λws m g ø ø=>(E9 (g.symm.trans e)),
  t8 c.lst λws m g z r=>tU ws m (x.keep ad _ g c.Ú λh=>f.Î (hF ad h)) z (r.mono T)⟩
theorem vj.item(f:uU C ZI s' ad Cl a)(W:Av C A nx a fh)(c:vj C ZI Zw E s' ad Cl a fh vs i io ZJ s3){tk:M}(FB:fh (i+1) h')(k:∀b o,b≠a->s3.heap.get? b=J o->h'.get? b=J o) :
  tK s3.heap h'/\vj C ZI Zw E s' ad Cl a fh vs (i+1) io ZJ {s3 with heap:=h',toks:=tk}:=
 xA (c.inv.ZZ (t:=tk) c.xz f.off (W.at_ _ _ c.at_) k) λI T=>⟨T,I,c.fr.ZZ f.nfI T k,c.ext.ZZ f.bL k,FB,c.xz,c.Ú,t8 c.lst λws m g z r=>tU ws m (k _ _ f.û g) z (r.mono T)⟩
theorem vj.done(f:uU C ZI s' ad Cl a)(W:Av C A nx a fh)(c:vj C ZI Zw E s' ad Cl a fh vs i io ZJ s3){tk:M}(k:∀b o,b≠a->s3.heap.get? b=J o->h'.get? b=J o) :
  uh C E s' ad Cl vs ZJ {s3 with heap:=h',toks:=tk}:=
 xA (c.inv.ZZ (t:=tk) c.xz f.off (W.at_ _ _ c.at_) k) λI T=>⟨I,(c.ext.ZZ f.bL k).drop λb h=>h.elim (λe=>e▸f.nC) λh=>h.elim (λe=>e▸f.nD) λe=>e▸f.bL,f.nD,f.nC,c.Ú,c.fr.free Cl (.inl f.loc.symm),f.Î,f.ê,f.ς,
  t8 c.lst λws m g z r=>tU ws m (k _ _ f.û g) (tY [16777216,33554432] 0x4240900120402 H z) (r.mono T),s9 c.fr.loc λm hm ø=>⟨m,dQ (f.loc▸hm) λo e=>k _ _ f.ö e⟩⟩
theorem vj.push(f:uU C ZI s' ad Cl a)(W:Av C A nx a fh)(c:vj C ZI Zw E s' ad Cl a fh vs i io ZJ s3)(g:s3.heap.get? ad=J ⟨.type "list",sD,.seq ws m,#[]⟩)(z:R vs<=2 ^ 24 - 1)(r:sY s3.heap vs ws.toList)(ry:tH s3.heap v vv) :
  vj C ZI Zw E s' ad Cl a fh (vs++[v]) i io ZJ {s3 with heap:=s3.heap.update ad (Obj.mapSeq λxs=>xs.push vv)}:=by
 have k:∀b o,b≠ad->s3.heap.get? b=J o->(s3.heap.update ad (Obj.mapSeq λxs=>xs.push vv)).get? b=J o:=λb o q e=>((jQ ..).2 b q).trans e
 exact xA (c.inv.ZZ (t:=s3.toks) c.Ú f.ê (ti _ g Jt) k) λI T=>⟨I,c.fr.ZZ f.nfD T k,c.ext.ZZ f.nD k,W.keep _ _ _ c.at_ (λo e=>k _ _ f.û.symm e) T,c.xz,c.Ú,ws.push vv,_,kH (Obj.mapSeq λxs=>xs.push vv) g H,
  by refine D (uX.size_push _) ?_;exact tD [16777215,1,16777216] 0x41084800908508c0128403 H z (r.u8:R vs=ws.size),by exact D oH ((r.append (sY.one ry)).mono T)⟩
theorem OP{K:V LV->LH->Prop}{Q:Fin->s8->Prop}(f:uU C ZI s1 ad Cl a)(W:Av C A nx a fh)
  (ht:Ct C A ZI Zw (λb=>b=ZI.locals) eb tg) (hm:vh C A ZI Zw as mc) (he:tA C A ZI Zw (eval ea ZI) mo) (hd:∀vs E s',uh C ZK s1 ad Cl vs E s'->K vs E->Q (.done .next) s')
  (ha:∀i vs io ZJ s3,vj C ZI Zw ZK s1 ad Cl a fh vs i io ZJ s3->rf nx tg mc mo X i vs io ZJ K->Q (.again (.compLoop (.ListComp ea [⟨eb,ec,as,0⟩] cw pos) 0 (.ref a) (.ref ad) ZI)) s3)
  (c:vj C ZI Zw ZK s1 ad Cl a fh vs i io ZJ s3) (k:rf nx tg mc mo (X+1) i vs io ZJ K):td C.aw A (compTurn (.ListComp ea [⟨eb,ec,as,0⟩] cw pos) 0 (.ref a) (.ref ad) ZI) Q am s3:=by
 refine D (JJ ..) (sG (x9 (sG (wC ?_))))
 rcases k with ⟨hn,k⟩ | ⟨lv,ß,hn,c!,k⟩
 .exact W.done i ZJ s3 _ c.inv c.at_ c.xz hn λh' tk kk=>sO (hd vs ZJ _ (c.done f W kk) k)
 .refine W.item i ZJ s3 lv _ c.inv c.at_ c.xz hn λv h' tk rv FB kk=>xA (c.item f W (tk:=tk) FB kk) λT c=>sG (wC (W.go _ eb v _ _ c.at_ (sG (wC (ht f.nf io ß ZJ _ lv v _ c! (rv.mono T) c.inv c.fr λs5 I5 F5 x5=>?_)))))
  have c:=c.step f W x5 (x5.tup c.inv.rep λb e o g ws X q=>s9 (c.fr.ex b (.inl e)) λo' g' h=>h ws X (by refine tj (gv (g.symm.trans g')) ?_;exact q)) (λb e=>e.trans f.loc) I5 F5;refine sG (wC (Jv (hm.wp I5 F5 k) λb s6 GT I6 x6 k=>?_));have c:=c.step f W x6 (x6.wn I5.rep) (λb h=>h.elim) I6 (F5.ext I5 x6);cases b with
  | false=>exact sO (ha (i+1) vs ß GT _ c k)
  | true=>
   refine sG (sG (wC (vf (he _ GT s6 _ I6 c.fr k) λy s7 ly st7 r7 I7 x7 k=>?_)));have c:=c.step f W x7 (x7.wn I6.rep) (λb h=>h.elim) I7 (c.fr.ext I6 x7);refine t8 c.lst λws m g ø r=>sG (wF oJ (ti _ g H) PySem.F.entry_list_append (PySem.F.args_list_append_2 _ _) (list_append ad ws m y (D sS (tD [16777215,16777216] 0x4240908508c0128403 H k.1 (r.u8:R vs=ws.size)))) ⟨g,?_⟩)
   exact sO (sO (ha (i+1) (vs++[ly]) ß st7 _ (c.push f W g k.1 r r7) k.2))
theorem K5{mi:LI}{use:sF (sR->Sem Unit)}{Q:sR->s8->Prop}
  (hi:Fi C A env Zw (eval ec env) mi) (ZQ:Fj cw cD ZD=pH) (lq:R ld=R ZD) (Uf:∀(j i:M) (x:ap),ld[j]?=J i->ZD[j]?=J x->Zw[i]?=J (J x)/\env.kindOf x=J .cell)
  (ht:∀im,im.scope=KH cw->im.globals=sV->im.builtins=tO->Ct C A im ((cD++ZD).map J) (λb=>b=im.locals) eb tg)
  (hm:∀im,im.scope=KH cw->im.globals=sV->im.builtins=tO->vh C A im ((cD++ZD).map J) as mc)
  (he:∀im,im.scope=KH cw->im.globals=sV->im.builtins=tO->tA C A im ((cD++ZD).map J) (eval ea im) mo)
{K:V LV->LH->Prop} (I:tV C ZK kt) (F:tG C env Zw ρ ZK kt.heap)
  (k:mi ρ ZK λnx s1=>∃n,rf nx tg mc mo n 0 [] (hU (R cD) sD++ld.map λi=>(ρ[i]?).join) s1 K)
  (fin:∀ad Cl acc E s',uh C ZK kt ad Cl acc E s'->K acc E->compPost C.aw A wV use Q (.ref ad) Cl (.ok .next) s')
  (hs:∀x,uM ec env x=pure x) :
  td C.aw A (comprehension (.ListComp ea [⟨eb,ec,as,0⟩] cw pos) cw env p1 (newList []) Zt (eval ec env) use) Q wV kt:=by
 simp only[Fj,jn,uP,i9,ud,j6]at ZQ;obtain ⟨⟨⟨⟨⟨⟨k1,k2⟩,k3⟩,k4⟩,k5⟩,k6⟩,k7⟩:=ZQ
 have l_:∀x∈cw.names,x.2=.free->∃(j i:M),ZD[j]?=J x.1/\ld[j]?=J i:=λx hx e=>by
  have:=k4 x hx;rw[e]at this;simp only[tJ,Aa,lg]at this;obtain ⟨j,hj,hj2⟩:=List.getElem_of_mem this;exact(w1 j (ld[j]'(by exact uy [] 0x5204a62042628463 H lq hj)) (by exact D (gM hj) (D hj2 H)) (gM (by exact uy [] 0x5204a62042628463 H lq hj)))
 have V!:∀x∈cw.names,x.2=.free->(env.cells.lookup x.1).isSome:=λx hx e=>by
  refine vX (l_ x hx e) λj i a b=>xA (Uf j i _ b a) λh1 h2=>?_
  refine vX (F.φ i x.1 h1 h2) λc v h3 ø=>?_
  exact D h3 H
 have U?:∀x∈cw.names,x.2=.local->cw.names.lookup x.1=J .local:=λx hx e=>by
  have:=k3 x hx;rw[e]at this
  simpa using this
 have ĺ:∀x∈cw.names,x.2≠.cell:=λx hx e=>by
  have:=k2 x hx;rw[e]at this;simp at this
 refine wpAny_comprehension_free (use:=use) H hs (It V!) k1 U? (uB (hi ρ ZK kt _ I F k) (λx s1 h1=>uB h1 (λitv s2 h=>?_) λø ø e=>e) λø ø e=>e);refine xw h λit ZV nx St e I2 x2 n0 h=>Cg h λμ off W FB h=>xE h λn k2=>?_
 refine D e ?_;refine uc ?_ (by size_fits);refine wpAny_newFunctionEnv ĺ (by intro y hy;simp at hy) (λh1 Ļ Ł=>?_) k1;generalize hH:s2.heap.push {cls:=.type "list",dict:=sD,data:=.seq ([]:V sR).toArray}=H2 at Ļ Ł ⊢;have ú:H2.objs.size=s2.heap.objs.size+1:=by exact tj hH (D (nM _ _) H)
 generalize hD:s2.heap.objs.size=ad;generalize ù:H2.objs.size=Cl at Ļ Ł ⊢;have Î:ad≠Cl:=by exact tj hD (tj ù (D ú (jh (iC _))))
 have old:∀b o,s2.heap.get? b=J o->h1.get? b=J o:=λb o e=>by
  exact Ł.extBut b o (by exact tj ù (D ú (jh (ja (i7 e)))):b≠Cl) (jH _ (hH▸jH _ e))
 have gD:h1.get? ad=J {cls:=.type "list",dict:=sD,data:=.seq ([]:V sR).toArray}:=Ł.extBut _ _ Î (jH _ (hH▸hD▸iW _ H))
 have fresh:∀a:M,s2.heap.objs.size<=a->s2.heap.get? a=sD:=λa ha=>by
  cases e:s2.heap.get? a with
  | none=>rfl
  | some o'=>exact absurd (i7 e) (jv.mpr ha)
 have f?:s2.heap.get? ad=sD:=fresh _ (by exact tj hD (gC _));have e_:s2.heap.get? Cl=sD:=fresh _ (by exact tj ù (D ú (kI _)));have yv:∀a:M,s2.heap.objs.size<=a->C.Off a:=λa ha=>I2.off ha
 have ς:=yv Cl (by exact tj ù (D ú (kI _)));have û:ad≠it:=λe=>by refine s9 (W.at_ _ _ FB) λo h ø=>?_;rw[<- e,f?]at h;exact uH h
 have ö:Cl≠it:=λe=>by refine s9 (W.at_ _ _ FB) λo h ø=>?_;rw[<- e,e_]at h;exact uH h
 have ahz:∀x o,h1.get? x=J o->(∀ws n,o.data=.seq ws n->uF)->x≠ad:=λx o e n q=>by obtain rfl:=q.symm;obtain rfl:=gv (gD.symm.trans e);exact n _ _ H
 generalize È:compEnvC cw (cw.names.foldl (yT env.cells) []) Cl env=ZI;have Á:ZI.scope=KH cw:=by exact tj È (ML F.hk (λx hx e=>vX (l_ x hx e) λj i a b=>(Uf j i _ b a).2:∀x∈cw.names,x.2=.free->env.kindOf x.1=J .cell):relabel cw env=KH cw)
 have υ:ZI.locals=Cl:=by exact tj È H
 have o_:ZI.cells=cw.names.foldl (yT env.cells) []:=by exact tj È H
 have Ķ:ZI.globals=sV:=by exact tj È F.glob
 have Ĵ:ZI.builtins=tO:=by exact tj È F.blt
 have F1:=F.ext (s':={s2 with heap:=h1,toks:=s2.toks+R ([]:V (ap×sR))}) I (x2.trans (.of_keeps old))
 have kl:∀x∈cD,ZI.kindOf x=J .local:=λx hx=>by
  refine(?_:ZI.scope.names.lookup x=_);refine D Á ?_;show((cw.names.map _).lookup x)=_;exact D Fl (D ((k5 x hx).1.1) H)
 have kc:∀x∈ZD,ZI.kindOf x=J .cell:=λx hx=>by
  refine(?_:ZI.scope.names.lookup x=_);refine D Á ?_;show((cw.names.map _).lookup x)=_;exact D Fl (D ((k6 x hx).1.1) H)
 have Å:∀x c,ZI.cells.lookup x=J c->env.cells.lookup x=J c:=λx c h=>by rw[o_]at h;exact Gf h
 have Ģ:∀(i:M) (x:ap),((cD++ZD).map J)[i]?=J (J x)->(i<R cD/\x∈cD)\/(R cD<=i/\ZD[i - R cD]?=J x):=λi x e=>by
  rw[gG]at e;refine s9 (gR.mp e) λy hy hy2=>?_
  refine tj (gv hy2) ?_
  by_cases hl:i<R cD
  .rw[hV hl]at hy;exact .inl ⟨hl,gz hy⟩
  .rw[il (by exact tD [] 0x520484284a2 H hl)]at hy;exact .inr ⟨by exact tD [] 0x520484284a2 H hl,hy⟩
 have w?:∀(j:M) (x:ap),ZD[j]?=J x->∃i c v,ld[j]?=J i/\Zw[i]?=J (J x)/\env.cells.lookup x=J c/\ZI.cells.lookup x=J c/\h1.IsCell c v:=λj x hj=>by
  have ZY:=(gB.mp hj).1;refine xA (Uf j _ x (gM (by exact uy [] 0x5204a62042628463 H lq ZY)) hj) λa b=>vX (F1.φ _ x a b) λc v h3 h4=>(tq _ c v (gM (by exact uy [] 0x5204a62042628463 H lq ZY)) a h3 ?_ h4)
  exact D o_ (P4 (by
   exact wD ((k6 x (gz hj)).1.1)) h3)
 have F2:tG C ZI ((cD++ZD).map J) (hU (R cD) sD++ld.map λi=>(ρ[i]?).join) ZV h1:=by
  refine⟨by refine D Á ?_;exact k1,Ķ,Ĵ,?_,?_,?_,?_,?_,?_,?_,?_,?_,?_⟩
  .intro i x e
   rcases Ģ i x e with ⟨_,h⟩ | ⟨_,h⟩
   .exact(uS (.inl (kl x h)) ((k5 x h).1.2) ((k5 x h).2))
   .have h:=gz h;exact(uS (.inr (.inl (kc x h))) ((k6 x h).1.2) ((k6 x h).2))
  .refine(ti _ (υ▸Ļ) (λi x lv e1 e2 e3=>?_))
   rcases Ģ i x e1 with ⟨hl,h⟩ | ⟨_,h⟩
   .rw[hV (by exact D jA hl),nF]at e2
    split at e2<;>cases e2
   .rw[kc x (gz h)]at e3;cases e3
  .intro i x lv e1 e2 e3
   rcases Ģ i x e1 with ⟨hl,h⟩ | ⟨hl,h⟩
   .rw[kl x h]at e3;rcases e3 with e3 | e3<;>cases e3
   .refine vz (w? _ x h) λi' c v q1 q2 q3 q4 q5=>?_
    rw[il (by exact D jA hl),jA,gG,q1]at e2;simp only[nO,sF.some.injEq]at e2
    have e2:ρ[i']?=J (J lv):=by
     cases z:ρ[i']? with
     | none=>rw[z]at e2;exact uH e2
     | some w=>rw[z]at e2;have e2:w=J lv:=e2;exact D e2 H
    refine t8 (F1.ψ i' x lv q2 e2 (.inl (Uf _ _ _ q1 h).2)) λc' v' r1 r2 r3=>?_
    obtain rfl:=gv (q3.symm.trans r1);exact(tU c v' q4 r2 r3)
  .intro i x e1 e2
   rcases Ģ i x e1 with ⟨hl,h⟩ | ⟨hl,h⟩
   .rw[kl x h]at e2;cases e2
   .exact vz (w? _ x h) λi' c v q1 q2 q3 q4 q5=>(w1 c v q4 q5)
  .exact λx y c hx hy=>F.d' x y c (Å _ _ hx) (Å _ _ hy)
  .intro x c hx e;refine s9 (F.ex c (.inr ⟨x,Å _ _ hx⟩)) λo ho ø=>?_
   rw[e,υ,(x2.live _ e_:kt.heap.get? Cl=sD)]at ho;exact uH ho
  .rintro b (rfl | ⟨x,hx⟩)
   .exact w5 Ļ λo es ep e d ø=>(ti o (υ▸e) (λws n q=>by rw[d]at q;exact(sN j0 q).elim))
   .exact F1.ex b (.inr ⟨x,Å _ _ hx⟩)
  .rintro b (rfl | ⟨x,hx⟩)
   .exact D υ ((λa ha o=>absurd (I2.lt o) (jv.mpr ha)) Cl (by exact tj ù (D ú (kI _))))
   .exact F1.free b (.inr ⟨x,Å _ _ hx⟩)
  .rintro b (rfl | ⟨x,hx⟩)
   .exact D υ ς
   .exact F.off b (.inr ⟨x,Å _ _ hx⟩)
  .exact λi j x e1 e2=>(jq (gB.mp e1).1 k7).mp (e1.trans e2.symm)
 have nf:∀x,ZI.kindOf x≠J .free:=λx e=>by
  have e:ZI.scope.names.lookup x=J tM.free:=e;rw[Á]at e;have e:(cw.names.map λx=>if x.2==.free then (x.1,tM.cell) else x).lookup x=J tM.free:=e;rw[Fl]at e;refine s9 (gR.mp e) λk h1 h2=>?_
  by_cases q:(k==tM.free)=pH
  .rw[sI q]at h2;exact(sN tM.ctorIdx h2).elim
  .rw[sH q]at h2;rw[h2]at q;exact q H
 have κ:∀b,b=it\/b=ad->¬ FA ZI b:=by
  rintro b h (q | ⟨x,hx⟩)
  .rw[υ]at q
   rcases h with h | h
   .exact ö (q.symm.trans h)
   .exact Î (h.symm.trans q)
  .refine s9 (F.ex b (.inr ⟨x,Å _ _ hx⟩)) λo ho ø=>?_
   rcases h with h | h
   .rw[h,n0]at ho;exact uH ho
   .rw[h,x2.live _ f?]at ho;exact uH ho
 have c0:vj C ZI ((cD++ZD).map J) ZK kt ad Cl it St [] 0 (hU (R cD) sD++ld.map λi=>(ρ[i]?).join) ZV {s2 with heap:=h1,toks:=s2.toks+R ([]:V (ap×sR))}:=
  ⟨(I2.grow old:tV C ZV {s2 with heap:=h1,toks:=s2.toks+R ([]:V (ap×sR))}),F2,wi (x2.trans (.of_keeps old)),W.keep _ _ _ FB (λo e=>old _ o e) (.of_keeps old:tK s2.heap h1),μ,((λa ha o=>absurd (I2.lt o) (jv.mpr ha)) ad (by exact tj hD (gC _))),#[],_,gD,by simp,trivial⟩
 have loop:∀s3:s8,s3={s2 with heap:=h1,toks:=s2.toks+R ([]:V (ap×sR))}->
   Ek C.aw A (.compLoop (.ListComp ea [⟨eb,ec,as,0⟩] cw pos) 0 (.ref it) (.ref ad) ZI) (compPost C.aw A wV use Q (.ref ad) Cl) s3:=λs3 e=>by
  subst e;refine codeAny_loop H (λn s3=>∃i acc io ZJ,vj C ZI ((cD++ZD).map J) ZK kt ad Cl it St acc i io ZJ s3/\rf nx tg mc mo n i acc io ZJ K) (λn s3 h=>PM h λi acc io ZJ c k=>?_) n ⟨0,[],_,ZV,c0,k2⟩;refine wpAny_noted (m:=compTurn (.ListComp ea [⟨eb,ec,as,0⟩] cw pos) 0 (.ref it) (.ref ad) ZI) (env:=ZI) ?_;cases n with
  | zero=>exact k.elim
  | succ n=>exact OP (⟨n0,x2.live _ f?,x2.live _ e_,û,ö,Î,off,(yv ad (by exact tj hD (gC _))),ς,nf,κ it (.inl H),κ ad (.inr H),υ⟩ : uU C ZI kt ad Cl it) W (ht ZI Á Ķ Ĵ) (hm ZI Á Ķ Ĵ) (he ZI Á Ķ Ĵ) (λacc E s' e k=>fin ad Cl acc E s' e k) (λi acc io ZJ s3 c k=>⟨H,n,iC n,i,acc,io,ZJ,c,k⟩) c k
 refine(?_:Ek C.aw A (.compStart _ 0 (.ref it) (.ref ad) (compEnvC cw (cw.names.foldl (yT env.cells) []) Cl env)) _ _);exact D È (codeAny_compStart_list (loop _ H) (wC (W.self 0 _ _ (W.keep _ _ _ FB (λo e=>old _ o e) (.of_keeps old:tK s2.heap h1)) (loop _ H))))
theorem OQ:typeLookup (.type "list_reverseiterator") "__len__" = pure sD:=by refine D (typeLookup_type _ _) (D Ca ?_);kernel_rfl
theorem P5:typeLookup (.type "list_reverseiterator") "__length_hint__" = pure (J (.builtin "list_reverseiterator.__length_hint__")):=by refine D (typeLookup_type _ _) (D Ca ?_);kernel_rfl
theorem K6{Q:V sR->s8->Prop}(hh:A.handled=sD)(hit:s3.heap.IsRevIter a l ((ws.size:al) - 1))(hl:s3.heap.IsList l ws)(Z0:l≠a)
  (hQ:∀(h':ds) (tk:M) (acc:uX sR),(∀b o,b≠a->s3.heap.get? b=J o->h'.get? b=J o)->ItemsOf (λi v=>ws[ws.size - 1 - i]?=J v) acc ws.size->Q acc.toList {s3 with heap:=h',toks:=tk})
  (hn:ws.size<=th):td (Ha prog e7) A (collect (.ref a)) Q am s3:=by
 have W:=(Walks.listRev (A:=A.in1) hh a l Z0 ws:Walks prog e7 A.in1 a [a,l] [a] ws.size (λi v=>ws[ws.size - 1 - i]?=J v) (λi h=>i<=ws.size/\h.IsRevIter a l ((ws.size:al) - 1 - (i:al))/\h.IsList l ws)).toS;have hT:∀i (s3:s8),i<=ws.size/\s3.heap.IsRevIter a l ((ws.size:al) - 1 - (i:al))/\s3.heap.IsList l ws->s3.TypeIs (.ref a) "list_reverseiterator":=λi s3 h=>h.2.1.typeIs
 have B?:s3.heap.objs.size≠a:=j8 (s9 hit λo h ø=>i7 h:a<s3.heap.objs.size)
 have hSf:s3.heap.objs.size∉[a,l]:=by
  simp only[gX,jY,or_false,not_or];exact⟨B?,j8 (s9 hl λo h ø=>i7 h:l<s3.heap.objs.size)⟩
 refine sG (wpAny_runValue (B1 PySem.F.entry_proto_collect (D (vy.under_plainId PySem.F.plain_proto_collect _) (sG (uc (sO ⟨Dt oK _,B1 PySem.F.entry_list_iadd ?_⟩))))));refine D (vy.under_plainId oK _) ?_;have É:=W.frame 0 s3 (s3.heap.push {cls:=.type "list",data:=.seq ([]:V sR).toArray}) s3.toks ((uS (gE _) (by simpa using hit) hl):(0<=ws.size/\s3.heap.IsRevIter a l ((ws.size:al) - 1 - ((0:M):al))/\s3.heap.IsList l ws)) (gC _) λb ø o e=>jH _ e
 refine(?_:td _ A.in1 (Ac.List.listExtendWith (.ref s3.heap.objs.size) (.ref a) (.ref s3.heap.objs.size)) _ _ _);refine sG (Bx (hT 0 _ É) (D (sH (by refine D (by simp[oL,B?]:oL (.ref s3.heap.objs.size) (.ref a)=Zt) ?_;decide)) ?_));refine sG (W.self 0 _ _ _ É (sG (uf (sG (wpAny_specialOf (hT 0 _ É) OQ (?_:td _ A.in1 (specialOf (kb a) (mE "__length_hint__") >>=_) _ _ _))))));refine sG (wpAny_specialOf (hT 0 _ É) P5 ?_)
 (generalize ź:("list_reverseiterator.__length_hint__" : String)=M?;(fail_if_success (clear ź M?));wp_delta;refine D (show splitId M?=J ("list_reverseiterator","__length_hint__") from by subst ź;decide +kernel) ?_;subst ź)
 refine sG (wpAny_isInstance (b:=pH) (hT 0 _ É) (by refine D (isSubtype_type _ _) ?_;kernel_rfl) ?_);refine sO (D (sH (by decide)) (sO ⟨Dt PySem.F.plain_extend_loop _,codeAny_extend_loopS W hn _ hSf _ _ 0 _ _ _ H (gE _) É (iW _ H:(s3.heap.push {cls:=.type "list",data:=.seq ([]:V sR).toArray}).get? s3.heap.objs.size=J {cls:=.type "list",data:=.seq ([]:V sR).toArray}) (ItemsOf.nil _) λs' ahe c' hm hS' xL=>?_⟩));refine sG (wpAny_load hS' ?_);have zs:=Moved.drop_new (o:={cls:=.type "list",data:=.seq ([]:V sR).toArray}) (tk:=s3.toks) hm (gC _);have:=hQ s'.heap s'.toks ahe (λb o hb e=>zs.heap b o (by simpa using hb) e) xL;rw[<- Moved.eq_with zs]at this;exact sO this
theorem DD(hh:A.handled=sD)(hit:s'.heap.IsRevIter a l ((ws.size:al) - 1))(hl:s'.heap.IsList l ws)(Z0:l≠a)
  (h:∀(h':ds) (tk:M) (acc:uX sR),(∀b o,b≠a->s'.heap.get? b=J o->h'.get? b=J o)->ItemsOf (λi v=>ws[ws.size - 1 - i]?=J v) acc ws.size->Q₁ (.ref h'.objs.size) {s' with heap:=h'.push {cls:=.type "tuple",data:=.seq acc},toks:=tk})
  (hn:ws.size<=th):Ek (Ha prog e7) A (.call (.builtin "tuple.__new__") ⟨[.type "tuple",.ref a],[]⟩) (wants Q₁ am) s':=by
 refine codeAny_of_tree (sG (wpAny_of_eq (PySem.F.newCall_tuple_1 _) (sO ⟨Dt oM _,B1 PySem.F.entry_tuple_new ?_⟩)));refine D (vy.under_plainId oM _) ?_;have Z1:=sub_tuple_self;have ahE:=init_tuple_lookup;have hmh:=madeHere_tuple
 wp_walk using Bx hit.typeIs,K6 (hn:=hn) (show A.in1.handled=sD from hh) hit hl Z0
 intro h' tk acc hk xL;refine(?_:td _ _ (Ac.Tuple.tupleExact acc.toList.toArray >>=λv=>ret v) _ _ _);refine sG (uc ?_ (by refine(?_:acc.toList.toArray.size<=th);simp only[uX.toArray_toList];exact D xL.1 hn));exact sO (D (by simp:acc.toList.toArray=acc) (h h' tk acc hk xL))
theorem Hn{s:s8}(hh:A.handled=sD)(hit:s.heap.IsRevIter a l ((ws.size:al) - 1))(hl:s.heap.IsList l ws)(Z0:l≠a)
  (hQ:∀(h':ds) (tk:M) (acc:uX sR),(∀b o,b≠a->s.heap.get? b=J o->h'.get? b=J o)->ItemsOf (λi v=>ws[ws.size - 1 - i]?=J v) acc ws.size->er (.ref h'.objs.size) {s with heap:=h'.push {cls:=.type "tuple",data:=.seq acc},toks:=tk})
  (hn:ws.size<=th):td (Ha prog e7) A (j9 (.type "tuple") [.ref a]) er am s:=by
 refine callType_codes (Q₁:=λobj kt=>kt.TypeIs obj "tuple"/\er obj kt) nP (PySem.F.typeCall_tuple_1 _) PySem.F.entry_object_init
  (DD (hn:=hn) hh hit hl Z0 λh' tk acc hm xL=>⟨(ti _ (iW _ H) H),hQ h' tk acc hm xL⟩) λobj kt e!=>?_
 exact(uS e!.1 (PySem.F.args_object_init_2 obj _) (object_init_meets nP.init.lookup nP.made (by decide) prog e7 A.in1 _ kt (uS e!.1 H e!.2)))
namespace L
noncomputable def never:LS:=λø ø ø=>uF
noncomputable def Ň(a b:LE):LE:=λρ st K=>a ρ st λx s1=>Æ (λt s=>if t then K (ii pH) s else b ρ s K) x s1
noncomputable def dict1(k v:LE):LE:=λρ st K=>∀c,st c=sD->k ρ (ur st c (f8 [])) λx s1=>v ρ s1 λy s2=>∃s3,setAt s2 (Y c) x y=J s3/\K (Y c) s3
noncomputable def callN(op:V LV->LP)(as:Mr):LE:=λρ st K=>as ρ st λxs s1=>op xs s1 K
noncomputable def isTup(e:LE):LB:=λρ st K=>e ρ st λx s1=>∃vs,x=f2 vs/\K pH s1
noncomputable def å(e:LE):LE:=λρ st K=>e ρ st λx s1=>∃l vs,x=Y l/\s1 l=J (f1 vs)/\R vs<=th/\K (f2 vs.reverse) s1
noncomputable def t3(i j k:M):LT:=λv ρ=>match v with | f2 [a,b,c]=>J (((ρ.set i (J a)).set j (J b)).set k (J c)) | _=>sD
noncomputable def asgT(t:LT)(e:LE):LS:=λρ st K=>e ρ st λv s1=>∃jp,t v ρ=J jp/\K .next jp s1
noncomputable def Ě(i j:M):LT:=λv ρ=>match v with | f2 [a,b]=>J ((ρ.set j (J b)).set i (J a)) | _=>sD
noncomputable def chainLt(a b c:LE):LB:=λρ st K=>a ρ st λx s1=>b ρ s1 λy s2=>∃i j:al,x=f0 i/\y=f0 j/\if i<j then c ρ s2 λz s3=>∃k:al,z=f0 k/\K (b8 (j<k)) s3 else K Zt s2
end L
open _root_.Mine.L renaming never->rh,dict1->rj,callN->rz,asgT->rA,chainLt->rB
namespace S
theorem never{t:Sem Flow}:v8 C A env Zw t rh:=λø ø ø ø ø ø ø k=>k.elim
theorem andE{a b:bm}{pos:Pos}{ma mb:LE}(ha:tA C A env Zw (eval a env) ma)(hb:tA C A env Zw (eval b env) mb):tA C A env Zw (eval (.BoolOp .And [a,b] pos) env) (pY ma mb):=λρ st s K I F k=>by
 refine BoolOp_and (vf (ha ρ st s _ I F k) λv s1 lv ZK r1 I1 x1 k1=>?_);cases lv with
 | bool t=>
  refine Ġ r1 ?_;cases t with
  | true=>exact BoolOp_one (AW (hb ρ ZK s1 K I1 (F.ext I x1) k1) x1)
  | false=>exact(uY _ ZK r1 I1 x1 k1)
 | _=>exact k1.elim
theorem Ň{a b:bm}{pos:Pos}{ma mb:LE}(ha:tA C A env Zw (eval a env) ma)(hb:tA C A env Zw (eval b env) mb):tA C A env Zw (eval (.BoolOp .Or [a,b] pos) env) (L.Ň ma mb):=λρ st s K I F k=>by
 refine BoolOp_or (vf (ha ρ st s _ I F k) λv s1 lv ZK r1 I1 x1 k1=>?_);cases lv with
 | bool t=>
  refine Ġ r1 ?_;cases t with
  | false=>exact BoolOp_one (AW (hb ρ ZK s1 K I1 (F.ext I x1) k1) x1)
  | true=>exact(uY _ ZK r1 I1 x1 k1)
 | _=>exact k1.elim
theorem mkDict:tA C A env Zw (eval (.Dict [] [] pos) env) pO:=λø ø s ø I ø k=>wpAny_Dict_empty (tI.newDict (t:=s.toks) I k)
theorem dictSet(n:M)(bi:Rm A n){st E:LH}{s:s8}{l:sE}{Zy:V (LV×LV)}{i v:LV}{vi vv:sR}{Q:Unit->s8->Prop}(I:tV C st s)(hl:st l=J (f8 Zy))(ri:tH s.heap i vi)(rv:tH s.heap v vv)(h:qA st (Y l) i v=J E)
  (k:∀s',tV C E s'->vV F0 st s.heap E s'.heap->Q () s'):td C.aw A (PySem.dictSet l vi vv) Q wV s:=by
 unfold qA at h;dsimp only at h;rw[hl]at h
 by_cases hh:Bw Zy i/\R Zy<=th
 .cases (sI hh).symm.trans h;obtain ⟨hk,hz⟩:=hh;cases hk with
  | int hk=>
   obtain ⟨t,rfl⟩:=ri;obtain ⟨ks,hd,hlen,put⟩:=u_ I hl hk rv;exact wpAny_dictSet_pairs (knd:=vt C.prog C.aH) (by simp[vt,jF]) hd (λh' pt hs=>xA (put h' _ pt hs) λI' x=>k _ I' x) (hlen▸hz)
  | tup hk=>
   (refine s9 (Ff (prog:=C.prog) (w:=C.aH) ri) λa e9 wl=>?_;subst e9)
   exact tW (u? I hl hk ri rv) λxs hd hlen put=>wpAny_dictSet_heap (knd:=t5 (tZ C.prog C.aH)) (show A.units<Gd by exact tD [64] 0x290252802400422 H bi.line) wl hd (λh' pt hs=>xA (put h' _ pt hs) λI' x=>k _ I' x) (hlen▸hz)
 .cases (sH hh).symm.trans h
theorem dict1(n:M)(bi:Rm A n)(hk:tA C A env Zw (eval kx env) mo)(hv:tA C A env Zw (eval ea env) ma)(W!:∀ρ st K c,mo ρ (ur st c (f8 [])) K->mo ρ (ur st c (f8 [])) λx s1=>s1 c=J (f8 [])/\K x s1)
  (U_:∀ρ st K c,st c=J (f8 [])->ma ρ st K->ma ρ st λx s1=>s1 c=J (f8 [])/\K x s1):tA C A env Zw (eval (.Dict [J kx] [ea] pos) env) (rj mo ma):=λρ st s K I F k=>by
 refine wpAny_Dict_any (by rfl) (by rfl) (by simp) (by simp) (xA (I.alloc (o:=f8 []) (t:=s.toks) (c:=s.heap.objs.size) (uC _ _) (AZ _) (AY I) (λh=>h) I.fresh (.inl (ti ([]) (oh _) trivial))) λI1 x1=>?_);generalize hc:s.heap.objs.size=c at I1 x1 ⊢;have F1:=F.ext (s':={s with heap:=s.heap.push {cls:=.type "dict",data:=.dict #[]}}) I x1;refine sG (vf (hk ρ _ _ _ I1 F1 (W! _ _ _ _ (k c (hc▸I.ZX)))) λkv s2 lk ZV r2 I2 x2 k2=>(xA k2 λwP k2=>(sG (uf (sG (vf (hv ρ _ _ _ I2 (F1.ext I1 x2) (U_ _ _ _ _ wP k2)) λvv s3 lv ZJ r3 I3 x3 k3=>(Mz k3 λÑ s4 e k3=>?_)))))));refine sG (x9 (sO (sG (uf (sO (sO ?_))))));unfold storeAll;rw[List.forIn_cons];exact sG (sG (dictSet n bi I3 Ñ (r2.mono (x3.wn I2.rep)) r3 e λs' I' x=>sO (sO (uY (Y c) _ H I' (((x1.trans x2).trans x3).trans x) k3))))
theorem Q?(k:M):∀(acc:uX sR),List.foldl (λx1 x2=>x1++x2) acc (hU k #[vv])=acc++(hU k vv).toArray:=by
 induction k with
 | zero=>exact λacc=>(uX.append_empty).symm
 | succ k ih=>
  intro acc;refine D oN (D List.foldl_cons (D (ih _) (D oN ?_)));apply uX.ext';simp
theorem mul(n:M)(_:Rm A n):zb C A (wm .Mult) p7:=λa b va vb st s K I ra rb k=>by
 cases b with
 | int n=>
  refine Ea vb rb λu=>?_
  cases a with
  | int x=>exact Ea va ra λt=>PySem.AutoIntOps.mul_0 (tI.int I k.2) k.1
  | ref x=>
   subst ra;refine yf k λv hx h0 h1 k=>?_
   obtain ⟨⟨ws⟩,m,g,z,r⟩:=I.rep.obj _ _ hx;obtain ⟨y,rfl,ry⟩:=sY.inv1 (vs:=ws) r
   refine wpAny_binaryOp_repeat_ref (T:="list") (U:="int") (by decide) (ti _ g H) (λs'=>typeIs_int s' n u) noFill_list_mul PySem.F.fills_int_mul oO repeat_list PySem.F.slot_int_index.lookup
    (wF oO (typeIs_int s n u) PySem.F.entry_int_rmul (PySem.F.args_int_rmul_2 _ _) (int___rmul___int_list n u x #[y] m)
     (AV g H (ti _ g H) (wF PySem.F.slot_list_mul (ti _ g H) PySem.F.entry_list_mul (PySem.F.args_list_mul_2 _ _) (PySem.AutoListH.list___mul___list_int_3 x #[y] m n u (by simp[Ac.List.listFitsIndex];lia) (by simp;lia) (by simp[mJ,th];exact h1)) ⟨g,?_⟩)))
   exact D ((Q? n.toNat #[]).trans (by simp):List.foldl (λx1 x2=>x1++x2) #[] (hU n.toNat #[y])=(hU n.toNat y).toArray) (.newList (t:=s.toks) I (sY.replicate ry n.toNat) (by refine D jM (D jA ?_);lia) k)
  | _=>exact k.elim
 | _=>exact k.elim
end S
theorem L.S?(e:L.Ě i j v ρ=J io):∃a b,v=f2 [a,b]/\io=(ρ.set j (J b)).set i (J a):=by
 cases v with
 | tup l=>cases l with
  | nil=>exact uH e
  | cons a l=>cases l with
   | nil=>exact uH e
   | cons b l=>cases l with
    | nil=>exact w1 a b H (gv e).symm
    | cons c l=>exact uH e
 | _=>exact uH e
theorem L.R!(e:L.t3 i j k v ρ=J io):∃a b c,v=f2 [a,b,c]/\io=((ρ.set i (J a)).set j (J b)).set k (J c):=by
 cases v with
 | tup l=>cases l with
  | nil=>exact uH e
  | cons a l=>cases l with
   | nil=>exact uH e
   | cons b l=>cases l with
    | nil=>exact uH e
    | cons c l=>cases l with
     | nil=>exact NA a b c H (gv e).symm
     | cons d l=>exact uH e
 | _=>exact uH e
namespace S
theorem callN{v:sR}(hx:env.kindOf nl=J .globalImplicit)(e0:nsIn C.aI sV nl=J sD)(hb:Bu nl=J v)(hn:nl≠"__name__")(hv:(∃id,v=.builtin id)\/∃T,v=.type T)
  (ho:De C A v fn) (ha:BW C A env Zw (wt (uO pos (sZ (ea::as) env))) es) (hp:(uO pos (sZ as env)).any (·.1)=Zt)
  (he:sZ (ea::as) env=(Zt,eval ea env)::sZ as env) (hd:(nl==("__debug__" : ap))=Zt) :
  tA C A env Zw (eval (.Call (.Name nl p1) (ea::as) [] pos) env) (rz fn es):=λρ st s K I F k=>by
 refine Hi (blt I F hx e0 hb hn ?_ hd)
 have h:td C.aw A (wt (uO pos (sZ (ea::as) env))) (λvs kt=>td C.aw A (j9 v vs) (tI C st s K) wV kt) wV s:=
  IQ (ha ρ st s _ I F k) λvs s1 BT ZK r1 I1 x1 k1=>AW (ho BT vs ZK s1 K I1 r1 k1) x1
 rcases hv with ⟨id,rfl⟩ | ⟨T,rfl⟩
 .exact PyProof.Rows.callWith_builtin1 h he hp
 .exact Pv.callWith_type1 h he hp
theorem isTup{p p2:Pos}{whole:Sem sR}(hx:env.kindOf "isinstance" = J .globalImplicit)(e0:nsIn C.aI sV "isinstance" = J sD)(hy:env.kindOf "tuple" = J .globalImplicit)(e1:nsIn C.aI sV "tuple" = J sD)(h:tA C A env Zw (eval ea env) e)
  (he:sZ [ea,.Name "tuple" p1] env=(Zt,eval ea env)::sZ [.Name "tuple" p1] env)
  (ht:uD (.Call (.Name "isinstance" p) [ea,.Name "tuple" p1] [] pos) env (eval (.Call (.Name "isinstance" p) [ea,.Name "tuple" p1] [] pos) env)=(do let v <- eval (.Call (.Name "isinstance" p) [ea,.Name "tuple" p1] [] pos) env;Ef pos;Eg [v] (truthy v)))
  (_w:whole=whole:=H) (_p:p2=p2:=H) :
  wA C A env Zw (uD (.Call (.Name "isinstance" p) [ea,.Name "tuple" p1] [] pos) env (eval (.Call (.Name "isinstance" p) [ea,.Name "tuple" p1] [] pos) env)) (L.isTup e):=λρ st s K I F k=>by
 refine wpAny_isTrue_value (Q:=KQ C st s K) ?_ ht;refine Hi (blt I F hx e0 (v:=.builtin "isinstance") (by decide +kernel) (by decide) ?_ (by decide));refine PyProof.Rows.callWith_builtin1 (xD (vf (h ρ st s _ I F k) λv s1 lv ZK r1 I1 x1 k1=>?_) he) he (by rfl);refine xD (blt I1 (F.ext I x1) hy e1 (v:=.type "tuple") (by decide +kernel) (by decide) ?_ (by decide)) (by rfl);refine Eo ?_;obtain ⟨vs,rfl,k1⟩:=k1;obtain ⟨T,ws,n,rfl,g,z,r⟩:=r1;refine call_isinstance (PySem.isinstance_true (Tx:="tuple") (T:="tuple") (by rfl) (by refine D (isSubtype_type _ _) ?_;kernel_rfl)) ⟨(ti _ g H),?_⟩;exact vg ⟨ZK,I1,x1,k1⟩
theorem å(bi:Rm A X)(hx:env.kindOf "tuple" = J .globalImplicit)(e0:nsIn C.aI sV "tuple" = J sD)(hy:env.kindOf "reversed" = J .globalImplicit)(e1:nsIn C.aI sV "reversed" = J sD)(h:tA C A env Zw (eval ea env) mo)
  (F!:sZ [.Call (.Name "reversed" p1) [ea] [] œ] env=(Zt,eval (.Call (.Name "reversed" p1) [ea] [] œ) env)::sZ [] env)
  (he:sZ [ea] env=(Zt,eval ea env)::sZ [] env) :
  tA C A env Zw (eval (.Call (.Name "tuple" tpos) [.Call (.Name "reversed" p1) [ea] [] œ] [] pos) env) (L.å mo):=λρ st s K I F k=>by
 refine Hi (blt I F hx e0 (v:=.type "tuple") (by decide +kernel) (by decide) ?_ (by decide));refine Pv.callWith_type1 (xD ?_ F!) F!;refine Hi (blt I F hy e1 (v:=.type "reversed") (by decide +kernel) (by decide) ?_ (by decide));refine Pv.callWith_type1 (xD (vf (h ρ st s _ I F k) λv s1 lv ZK r1 I1 x1 k1=>Eo ?_) he) he;obtain ⟨l,vs,rfl,hl,hz,k1⟩:=k1;subst r1;obtain ⟨ws,hL,r,z⟩:=I1.list hl;refine call_reversed_list hL (Eo (Hn (s:={s1 with heap:=s1.heap.push (revObj l ((ws.size:al) - 1))}) bi.hd ⟨_,iW _ H,H,H⟩ (hL.at λo e=>(uC _ _) _ o e) (jh (s9 hL λo h ø=>i7 h:l<s1.heap.objs.size)) (λh' tk acc hk xL=>?_) (r.len▸hz)));have e?:∀b o,s1.heap.get? b=J o->h'.get? b=J o:=λb o e=>hk b o (jh (i7 e)) ((uC _ _) b o e)
 refine tI.from (x1.trans (.of_keeps e?)) (tI.ç (s:={s1 with heap:=h',toks:=tk}) (t:=tk) (I1.grow e?:tV C ZK {s1 with heap:=h',toks:=tk}) (xs:=vs.reverse) ?_ (xL.1▸z) k1)
 have e:acc.toList=ws.toList.reverse:=by
  refine jj λi=>?_
  by_cases hi:i<ws.size
  .have ha:i<acc.size:=D xL.1 hi;exact D (lP) (D (k8 ha) (D (List.getElem?_reverse (D iR hi)) (D iR (D (lP) (D (xL.2 i acc[i] (k8 ha)) H)))))
  .exact D (iz (D iR (D xL.1 (jv.mp hi)))) (D (iz (D oP (D iR (jv.mp hi)))) H)
 exact D e ((r.mono (.of_keeps e?)).reverse)
theorem asgT(hT:ea=.Tuple as i tpos)(ht:Ct C A env Zw (FA env) ea tg)(hv:tA C A env Zw (eval eb env) mo)
  (hs:swapsWithSole [.Tuple as i tpos] eb pos.line env=pure Zt) (hw:wo [.Tuple as i tpos] eb env=pure sD):v8 C A env Zw (exec (.Assign [ea] eb pos) env) (rA tg mo):=λnf ρ st s K I F k=>by
 subst hT;refine Assign_Tuple (vf (hv ρ st s _ I F k) λv s1 lv ZK r1 I1 x1 k1=>?_) hs hw;exact s9 k1 λjp e k1=>ht nf ρ jp ZK s1 lv v _ e r1 I1 (F.ext I x1) λs2 I2 F2 x2=>(tq .next jp ZK H I2 F2 ((wi x1).trans x2) k1)
set_option tactic.hygienic true in
theorem U!{p q:Pos}{k0:M}(hh:A.handled=sD)(hn:Zw[i]?=J (J nl))(hm:Zw[j]?=J (J name))(hv:tA C A env Zw (eval ea env) mo)
  (hs:swapsWithSole [.Tuple [.Name nl p,.Name name q] k0 tpos] ea pos.line env=pure Zt) (hw:wo [.Tuple [.Name nl p,.Name name q] k0 tpos] ea env=pure (J [nl,name])):v8 C A env Zw (exec (.Assign [.Tuple [.Name nl p,.Name name q] k0 tpos] ea pos) env) (rA (L.Ě i j) mo):=λnf ρ st s K I F k=>by
 refine Assign_Tuple_swapped (vf (hv ρ st s _ I F k) λv s1 lv ZK r1 I1 x1 k1=>?_) hs hw;refine s9 k1 λjp e k1=>?_
 obtain ⟨a,b,rfl,rfl⟩:=L.S? e
 ·(refine t9 r1 λT ws n e9 g z r=>?_;subst e9)
  refine t8 r.inv2 λva vb hw ra rb=>?_
  have ζ:2=ws.size:=r.len;have:=@unpackItems_tuple C.prog C.aH A wV s1 T ws (λitems g_=>td C.aw A (Ds (([nl,name]:V ap).reverse.map λn=>bindName env n) items.reverse) (λø=>BX C env Zw st s K .next) wV g_) hh (yS _ g H n H) λh' hx=>?_
  .refine(?_:td C.aw A (unpackItems (.ref T) 2 sD) _ _ _);exact D ζ this
  have kk:∀b o,s1.heap.get? b=J o->h'.get? b=J o:=λb o e=>hx b o (jh (i7 e)) e
  exact D hw (stores (s:={s1 with heap:=h',toks:=s1.toks}) (Fa:=FA env) (as:=[b,a]) (Bz nf hm (λø f=>f.fa) (λh=>bindName_ h) (Bz nf hn (λø f=>f.fa) (λh=>bindName_ h) stores0)) (uS (rb.mono (.of_keeps kk)) (ra.mono (.of_keeps kk)) trivial) (I1.grow kk) ((F.ext I x1).ext (s':={s1 with heap:=h',toks:=s1.toks}) I1 (.of_keeps kk))
   λs3 I3 F3 x3=>(tq .next _ ZK H I3 F3 (((wi x1).trans (wi (.of_keeps kk))).trans x3) k1))
theorem t3(hh:A.handled=sD){k}(hn:Zw[i]?=J (J nl))(hm:Zw[j]?=J (J name))(ho:Zw[t]?=J (J de))(hF:∀b,FS env nl b->Fa b)(hG:∀b,FS env name b->Fa b)(hH:∀b,FS env de b->Fa b) :
  Ct C A env Zw Fa (.Tuple [.Name nl p1,.Name name tpos,.Name de p2] k pos) (L.t3 i j t):=λnf ρ jp st s lv v Q e rr I F h=>by
 obtain ⟨a,b,c,rfl,rfl⟩:=L.R! e
 ·(refine t9 rr λT ws n e9 g de p2=>?_;subst e9)
  exact unpack hh (Bz nf hn hF (λh=>uL h) (Bz nf hm hG (λh=>uL h) (Bz nf ho hH (λh=>uL h) stores0))) H rfl g p2 I F h
theorem chainLt(ha:tA C A env Zw (eval ea env) ma)(hb:tA C A env Zw (eval eb env) mb)(hc:tA C A env Zw (eval ec env) e)(hm:lastMarks [A0.Lt,A0.Lt] [eb,ec]=Zt) :
  wA C A env Zw (uD (.Compare ea [.Lt,.Lt] [eb,ec] pos) env ej) (rB ma mb e):=λρ st s K I F k=>by
 refine isTrue_chain (vf (ha ρ st s _ I F k) λva s1 x ZK r1 I1 x1 k1=>?_) hm;refine test_link (vf (hb ρ ZK s1 _ I1 (F.ext I x1) k1) λvb s2 y ZV r2 I2 x2 k2=>?_);obtain ⟨i,j,rfl,rfl,k2⟩:=k2
 (refine xE r1 λt e9=>?_;subst e9)
 (refine xE r2 λu e9=>?_;subst e9)
 refine P.lt_int (vg ?_)
 by_cases h:i<j
 .rw[sI h]at k2;refine D (sI (sM h)) (test_last (vf (hc ρ ZV s2 _ I2 ((F.ext I x1).ext I1 x2) k2) λvc s3 z ZJ r3 I3 x3 k3=>?_));obtain ⟨l,rfl,k3⟩:=k3;obtain ⟨t3,rfl⟩:=r3;exact P.lt_int (vg ⟨ZJ,I3,(x1.trans x2).trans x3,k3⟩)
 .rw[sH h]at k2;exact D (sH (by simpa using h)) (tC ZV I2 (x1.trans x2) k2)
theorem comp{mi:LI}(loc ZD:V ap)
  (hi:Fi C A env Zw (eval ec env) mi) (ZQ:Fj cw loc ZD=pH) (lq:R ld=R ZD) (Uf:∀(j i:M) (x:ap),ld[j]?=J i->ZD[j]?=J x->Zw[i]?=J (J x)/\env.kindOf x=J .cell)
  (ht:∀im,im.scope=KH cw->im.globals=sV->im.builtins=tO->Ct C A im ((loc++ZD).map J) (λb=>b=im.locals) eb tg)
  (hm:∀im,im.scope=KH cw->im.globals=sV->im.builtins=tO->vh C A im ((loc++ZD).map J) as mc)
  (he:∀im,im.scope=KH cw->im.globals=sV->im.builtins=tO->tA C A im ((loc++ZD).map J) (eval ea im) mo)
  (hs:∀x,uM ec env x=pure x):tA C A env Zw (eval (.ListComp ea [⟨eb,ec,as,0⟩] cw pos) env) (rg mi (R loc) ld tg mc mo):=λρ st s K I F k=>by
 rw[eval_ListComp];refine K5 (use:=sD) hi ZQ lq Uf ht hm he I F k (λad Cl acc E s' am k'=>?_) hs;refine xE am.ns λm hm=>(ti m hm (λh' hb=>?_))
 have oC:¬ tT (ur E ad (f1 acc)) Cl:=λq=>by
  rcases tT.upd (o:=f1 acc) (λh=>h) (λc d fs e=>am.oD (.inl ⟨_,e⟩)) q with q | q
  .exact am.ne q.symm
  .exact am.oC q
 have kk:∀b o,b≠Cl->s'.heap.get? b=J o->h'.get? b=J o:=λb o q e=>(hb.2 b q).trans e
 exact w5 hm λo es ep e d ø=>(uY (Y ad) _ H ((am.inv.adopt am.oD am.ê (o:=f1 acc) (λh=>h) am.rep).Œ (t:=s'.toks) oC am.ς (λb dd ws n sl q=>kk b _ (λz=>by rw[z,e]at q;obtain rfl:=gv q;exact(sN j0 d).elim) q:tK s'.heap h') kk) ((am.ext.adopt (o:=f1 acc) am.nD (λh=>h) am.oD).ZZ am.nC kk) (k' ad (by cases q:E ad with | none=>rfl | some o=>exact(am.oD (.inl ⟨o,q⟩)).elim)))
theorem T?{spos:Pos}{mi:LI}(loc ZD:V ap)
  (hn:Zw[X]?=J (J nl)) (hsw:vO (.ListComp ea [⟨eb,ec,as,0⟩] cw pos) (J (.Name nl p1)) spos.line env=pure pH)
  (hi:Fi C A env Zw (eval ec env) mi) (ZQ:Fj cw loc ZD=pH) (lq:R ld=R ZD) (Uf:∀(j i:M) (x:ap),ld[j]?=J i->ZD[j]?=J x->Zw[i]?=J (J x)/\env.kindOf x=J .cell)
  (ht:∀im,im.scope=KH cw->im.globals=sV->im.builtins=tO->Ct C A im ((loc++ZD).map J) (λb=>b=im.locals) eb tg)
  (hm:∀im,im.scope=KH cw->im.globals=sV->im.builtins=tO->vh C A im ((loc++ZD).map J) as mc)
  (he:∀im,im.scope=KH cw->im.globals=sV->im.builtins=tO->tA C A im ((loc++ZD).map J) (eval ea im) mo)
  (hs:∀x,uM ec env x=pure x):v8 C A env Zw (exec (.Assign [.Name nl p1] (.ListComp ea [⟨eb,ec,as,0⟩] cw pos) spos) env) (qp X (rg mi (R loc) ld tg mc mo)):=λnf ρ st s K I F k=>by
 refine D (exec_Assign_Name_used _ _ _ _ hsw) (sG (x9 (sG (?_:td _ A (do let _ <- comprehension (.ListComp ea [⟨eb,ec,as,0⟩] cw pos) cw env _ (newList []) Zt (eval ec env) (J (Hk (.Name nl p1) env))) _ _ s))));refine sG (uB (K5 (use:=J (Hk (.Name nl p1) env)) (Q:=λø s'=>BX C env Zw st s K .next s') hi ZQ lq Uf ht hm he I F k (λad Cl acc E s' am k'=>?_) hs) (λø s' hq=>sO (sO hq)) λø ø e=>e);have x1:=am.ext.adopt (o:=f1 acc) am.nD (λh=>h) am.oD;refine uL ((F.ext I x1).store (am.inv.adopt am.oD am.ê (o:=f1 acc) (λh=>h) am.rep) nf hn (lv:=Y ad) H λs2 I2 F2 x2=>?_);have nCl:env.locals≠Cl:=λq=>by refine s9 (F.ex env.locals (.inl H)) λo ho ø=>?_;rw[q,am.nC]at ho;exact uH ho
 have N?:¬ FA env Cl:=λf=>by refine s9 (F.ex Cl f) λo ho ø=>?_;rw[am.nC]at ho;exact uH ho
 have oC:¬ tT (ur E ad (f1 acc)) Cl:=λq=>by
  rcases tT.upd (o:=f1 acc) (λh=>h) (λc d fs e=>am.oD (.inl ⟨_,e⟩)) q with q | q
  .exact am.ne q.symm
  .exact am.oC q
 refine xE am.ns λm hm=>?_
 have X':s2.heap.Ns Cl m:=dQ hm λo e=>x2.keep _ _ e oC λf=>N? f.fa
 refine(ti m X' (λh' hb=>?_));have kk:∀b o,b≠Cl->s2.heap.get? b=J o->h'.get? b=J o:=λb o q e=>(hb.2 b q).trans e
 refine w5 X' λo es ep e d ø=>?_
 have T:tK s2.heap h':=λb dd ws n sl q=>kk b _ (λz=>by rw[z,e]at q;obtain rfl:=gv q;exact(sN j0 d).elim) q
 exact(tq .next _ _ H (I2.Œ (t:=s2.toks) oC am.ς T kk) (F2.ZZ N? T kk) (((wi x1).trans (x2.mono λø f=>f.fa)).ZZ am.nC kk) (k' ad (by cases q:E ad with | none=>rfl | some o=>exact(am.oD (.inl ⟨o,q⟩)).elim)))
end S
noncomputable def Ye{α:Type}(d:α)(f:Fm->V Stmt->ye->α)(c:V Stmt->α)(r:sF bm->α)(a:V bm->bm->α)(g:bm->bm->V Stmt->V Stmt->α)(w i:bm->V Stmt->V Stmt->α)(e:bm->α)(b k:α)(s:Stmt):α:=s.casesOn (λø p q ø ø ø z ø ø ø=>f p q z) (λø ø ø ø ø ø ø ø ø ø=>d) (λø ø ø b ø ø ø ø ø ø ø=>c b) (λv ø=>r v) (λø ø=>d) (λl v ø=>a l v) (λø ø ø ø ø ø ø=>d) (λø ø ø ø=>d) (λø ø ø ø ø=>d) (λt i b o ø=>g t i b o) (λø ø ø ø ø=>d) (λt b o ø=>w t b o) (λt b o ø=>i t b o) (λø ø ø=>d) (λø ø ø=>d) (λø ø ø=>d) (λø ø ø=>d) (λø ø ø ø ø=>d) (λø ø ø ø ø=>d) (λø ø ø=>d) (λø ø=>d) (λø ø ø ø=>d) (λø ø=>d) (λø ø=>d) (λv ø=>e v) (λø=>d) (λø=>b) (λø=>k)
noncomputable def Yf{α:Type}(d:α)(f:Fm->V Stmt->ye->α)(c:V Stmt->α):Stmt->α:=Ye d f c (λø=>d) (λø ø=>d) (λø ø ø ø=>d) (λø ø ø=>d) (λø ø ø=>d) (λø=>d) d d
noncomputable def DE:Stmt->V Stmt:=Yf [] (λø b ø=>b) id
noncomputable def Af:Stmt->ye:=Yf default (λø ø z=>z) λø=>default
noncomputable def BA:Stmt->Fm:=Yf default (λa ø ø=>a) λø=>default
noncomputable def Cw(i:M):Stmt:=(PySem.Challenge.pw_nn0405_01.main.body.drop i).headD default
noncomputable def zZ(i j:M):Stmt:=((DE (Cw i)).drop j).headD default
noncomputable def Sl(K:Frag)(a:sE)(st:Stmt)(dv:sR):Prop:=∃oc od fd Ç,K.lookup a=J ⟨oc,od,.func fd,Ç⟩/\codeIn K fd.code fd.qualname=pH/\fd.body=.stmts (DE st)/\fd.scope=Af st/\fd.params=BA st/\fd.globals=sV/\
 fd.builtins=tO/\fd.closure=[]/\fd.defaults=dv/\fd.kwdefaults=.none
theorem kd{r:sF tM}(he:env.scope=cw)(h:cw.names.lookup nl=r):env.kindOf nl=r:=by unfold Env.kindOf;exact D he h
theorem MM{gens:V t4}(h:env.kindOf nl=J .cell):vO (.ListComp ea gens cw pos) (J (.Name nl p1)) i env=pure Zt:=by
 unfold vO;simp only[h];rw[show((J tM.cell==J tM.local)=Zt) from H,nG,Bool.false_and,Bool.false_and]
theorem K7{gens:V t4}(he:env.scope=fu)(hk:fu.kind=.function)(h:fu.names.lookup nl=J .local)
  (hp:(p1.line==pos.line&&!(cw.names.any λ(i,k)=>i==nl&&(k==.local||k==.cell)))=pH):vO (.ListComp ea gens cw pos) (J (.Name nl p1)) i env=pure pH:=by
 have h1:env.blockKind=.function:=by unfold Env.blockKind;exact D he (D hk H)
 show pure (env.blockKind==.function&&env.kindOf nl==J .local&&p1.line==pos.line&&!(cw.names.any λ(i,k)=>i==nl&&(k==.local||k==.cell)))=pure pH;exact xA (iL.mp hp) λa b=>D h1 (D (kd he h) (D a (D b H)))
theorem B7.of{st:Stmt}(ps ls:V ap)(hf:Sl C.aI a st dv)(SL:R ps=k+R fs)(ZQ:El (Af st) ((ps++ls).map J)=pH)
  (à:∀fd:A4,fd.params=BA st->fd.defaults=dv->fd.kwdefaults=.none->∀(s:s8) (vs:V sR),(∀b o,C.h0.get? b=J o->s.heap.get? b=J o)->R vs=k->∃IO,sY s.heap fs IO/\BindsTo s fd ⟨vs,[]⟩ (ps.zip (vs++IO)))
  (ō:∀A env,Rm A i->env.scope=Af st->Ae env=Zt->v8 C A env ((ps++ls).map J) (BY (DE st) env) EQ):B7 C (i+1) (.ref a) (qz k fs (R ls) EQ):=by
 (refine xw hf λoc od fd Ç h1 h2 h3 h4 r9=>Cg r9 λh5 h6 h7 h8 r9=>xA r9 λh9 Í=>?_)
 exact B7.mk h1 h2 h3 h6 h7 h8 SL H (D h4 ZQ) (λs vs hk hl=>à fd h5 h9 Í s vs hk hl) λA env bi he ø ø hi=>ō A env bi (he.trans h4) hi
theorem fq(i:M)(ρ:uZ)(st:LH)(K:LV->LH->Prop)(c:sE)(h:st c=J (f8 []))(k:U i ρ st K):U i ρ st λx s1=>s1 c=J (f8 [])/\K x s1:=by
 refine s9 (eO k) λv e k=>?_
 unfold U;exact D e ⟨h,k⟩
theorem fA(v:LV)(ρ:uZ)(st:LH)(K:LV->LH->Prop)(c:sE)(h:st c=J (f8 []))(k:pG v ρ st K):pG v ρ st λx s1=>s1 c=J (f8 [])/\K x s1:=⟨h,k⟩
namespace S
theorem Δ(bi:Rm A t)(hn:Zw[i]?=J (J nl)):tA C A env Zw (eval (.Dict [J (.Name nl tpos)] [.Constant .none k p1] pos) env) (rj (U i) (pG .none)):=
 dict1 t bi (var hn) n? (λρ st K c=>fq i ρ _ K c (te ..)) (λρ st K c h=>fA _ ρ _ K c h)
theorem Z_(hx:env.kindOf nl=J .globalImplicit)(e:nsIn C.aI sV nl=J (J (.ref a)))(h:∃ws n,C.aI.lookup a=J ⟨.type "tuple",sD,.seq ws n,#[]⟩/\R ws.toList=R ZD/\∀(i:M) y,ZD[i]?=J y->∃t,ws.toList[i]?=J (.str y t))
  (hz:R ZD<=1000) (hd:(nl==("__debug__" : ap))=Zt):tA C A env Zw (eval (.Name nl pos) env) (pG (f2 (ZD.map g3))):=λø ø s ø I F k=>by
 refine t8 h λws n hl hlen hi=>glob (r:=sD) I F hx e (tI.same (t:=s.toks) (lv:=f2 (ZD.map g3)) I (uQ a ws n H (I.wf _ _ hl) ?_ ?_) k) hd
 .rw[iR]at hlen;exact tD [1000,33554432] 0x424090a40880128403 H hz hlen
 .refine Ge (D (gy _) hlen.symm) λi lv v e1 e2=>?_
  rw[gG]at e1;refine vp lv (gR.mp e1) λy hy=>xE (hi i y hy) λt ht=>?_
  rw[ht]at e2;obtain rfl:=gv e2;exact⟨t,H⟩
end S
noncomputable def Le(st E:LH):Prop:=∀a o,st a=J o->E a=J o
theorem Le.refl(st:LH):Le st st:=λø ø e=>e
theorem Le.trans(x:Le s E)(y:Le E ZJ):Le s ZJ:=λø ø e=>y _ _ (x _ _ e)
theorem Le.new(h:s c=sD):Le s (ur s c o):=λa x e=>by
 have:a≠c:=λq=>by rw[q,h]at e;exact uH e
 exact D (tR this) e
theorem Le.upd(h:Le s E)(n:s c=sD):Le s (ur E c o):=λa x e=>by
 have:a≠c:=λq=>by rw[q,n]at e;exact uH e
 exact D (tR this) (h _ _ e)
theorem Ur(h:s a=J o)(n:s c=sD):a≠c:=λq=>by rw[q,n]at h;exact uH h
theorem cJ(h:bb ρ s (A3 EQ Kb)):qo bb EQ ρ s Kb:=h
theorem sP(h:bb ρ s Kb):A3 bb Kb .next ρ s:=h
theorem Ze(h:Kb .cont ρ s):A3 bb Kb .cont ρ s:=h
theorem WQ(h:Kb .brk ρ s):A3 bb Kb .brk ρ s:=h
theorem fX(h:Kb .next ρ s):qm ρ s Kb:=h
theorem cQ(h:e ρ s λv s1=>Kb .next (ρ.set i (J v)) s1):qp i e ρ s Kb:=h
theorem dD(h:e ρ s λø s1=>Kb .next ρ s1):qr e ρ s Kb:=h
theorem cZ(h:e ρ s λv s1=>Kb (.ret v) ρ s1):qt e ρ s Kb:=h
theorem gb(h:Kb .brk ρ s):L.brk ρ s Kb:=h
theorem dG(h:mc ρ s λt s1=>if t then bb ρ s1 Kb else EQ ρ s1 Kb):qv mc bb EQ ρ s Kb:=h
theorem cG(h:ρ[i]?=J (J v))(k:KE v s):U i ρ s KE:=by unfold U;exact D h k
theorem dh(k:KE v s):pG v ρ s KE:=k
theorem dB{op:LV->LV->LP}(h:e ρ s λx s1=>mo ρ s1 λy s2=>op x y s2 KE):pI op e mo ρ s KE:=h
theorem cH{KL:V LV->LH->Prop}(h:KL [] s):pK ρ s KL:=h
theorem cC{KL:V LV->LH->Prop}(h:e ρ s λx s1=>es ρ s1 λxs s2=>KL (x::xs) s2):pL e es ρ s KL:=h
theorem d6(h:es ρ s λxs s1=>R xs<=1000/\KE (f2 xs) s1):pN es ρ s KE:=h
theorem cV(h:es ρ s λxs s1=>R xs<=1000/\∀mc,s1 mc=sD->KE (Y mc) (ur s1 mc (f1 xs))):pM es ρ s KE:=h
theorem fz(h:∀mc,s mc=sD->KE (Y mc) (ur s mc (f8 []))):pO ρ s KE:=h
theorem f5(h:mc ρ s λt s1=>if t then e ρ s1 KE else mo ρ s1 KE):pP mc e mo ρ s KE:=h
theorem cO(h:es ρ s λxs s1=>fn xs s1 KE):L.call fn es ρ s KE:=h
theorem dU(h:es ρ s λxs s1=>fn xs s1 KE):rz fn es ρ s KE:=h
theorem cT(h:e ρ s λx s1=>L.ĥ a s1 x/\es ρ s1 λxs s2=>fn (x::xs) s2 KE):qC a fn e es ρ s KE:=h
theorem dA{P:LH->LV->Prop}(h:e ρ s λx s1=>P s1 x/\es ρ s1 λxs s2=>fn (x::xs) s2 KE):qV P fn e es ρ s KE:=h
theorem cK(h:s l=J (f4 a d fs)):L.ĥ a s (Y l):=(NA _ _ _ H h)
theorem dk(h:s l=J (f1 vs)):qT s (Y l):=(w1 _ _ H h)
theorem ef(h:s l=J (f8 Zy)):qU s (Y l):=(w1 _ _ H h)
theorem fY(h:e ρ s λx s1=>L.getA a i x s1 KE):L.Zx a i e ρ s KE:=h
theorem eY(h:s l=J (f4 a d fs))(hf:fs[i]?=J v)(k:KE v s):L.getA a i (Y l) s KE:=(zi _ _ _ _ H h hf k)
theorem L.KT{op:LV->LV->LP}(h:e ρ s λx s1=>mo ρ s1 λy s2=>op x y s2 (Æ KB)):pX op e mo ρ s KB:=h
theorem eF(h:mc ρ s λt s1=>KB (!t) s1):pR mc ρ s KB:=h
theorem gf(h:cB ρ s λt s1=>if t then mc ρ s1 KB else KB Zt s1):pS cB mc ρ s KB:=h
theorem eS(h:cB ρ s λt s1=>if t then KB pH s1 else mc ρ s1 KB):pU cB mc ρ s KB:=h
noncomputable def Yg(KB:bn->LH->Prop):LV->LH->Prop:=λx s1=>match x with
 | ii bb=>KB bb s1
 | Y l=>∃xs,s1 l=J (f1 xs)/\KB (!xs.isEmpty) s1
 | _=>uF
theorem fj(h:e ρ s (Yg KB)):pQ e ρ s KB:=h
theorem Vd(h:KB mf s):Yg KB (ii mf) s:=h
theorem Yh(hl:s l=J (f1 vs))(h:KB (!vs.isEmpty) s):Yg KB (Y l) s:=(ti _ hl h)
theorem PF{A B:Prop}(h:A):if pH=pH then A else B:=D (sI H) h
theorem Cb(h:ck):if Zt=pH then Q else ck:=D (sH (by decide)) h
theorem Ho(h:EQ ρ s Kb):L.Æ (λt s1=>if t then bb ρ s1 Kb else EQ ρ s1 Kb) (ii (pH != pH)) s:=h
theorem Wr(h:mf=pH->Q)(g:mf=Zt->ck):if mf=pH then Q else ck:=by
 cases mf
 .exact Cb (g H)
 .exact PF (h H)
theorem fb(k:KE (ii (mf != b8 (hs=d7))) s):qk mf (f0 hs) (f0 d7) s KE:=by
 refine(uS H rfl (D (show decide (f0 hs=f0 d7)=b8 (hs=d7) by refine AU jG ?_;simp) ?_));exact k
theorem L.itemL{n:M}(h:s l=J (f1 vs))(hv:vs[n]?=J v)(k:KE v s):qi (Y l) (f0 n) s KE:=(ti _ (.inl (ti _ h (.inl (ti _ H hv)))) k)
theorem L.itemT{n:M}(hv:vs[n]?=J v)(k:KE v s):qi (f2 vs) (f0 n) s KE:=(tU _ _ H hv k)
theorem L.ŏ(h:s l=J (.dict Zy))(hk:wu Zy=pH)(hv:v5 Zy (.int hs)=J v)(k:KE v s):qi (.ref l) (.int hs) s KE:=(ti _ (.inr (tC _ (.inl h) (.int hk) hv)) k)
theorem L.ĝ(h:s l=J (f8 Zy))(hk:vG Zy=pH)(ha:(Dr vs).isSome=pH)(hv:v5 Zy (f2 vs)=J v)(k:KE v s):qi (Y l) (f2 vs) s KE:=(ti _ (.inr (tC _ (.inl h) (.atoms hk ha) hv)) k)
theorem L.lenL(h:s l=J (f1 vs))(k:KE (f0 (R vs)) s):qN [Y l] s KE:=(tU _ _ H (.inr (ti _ H h)) k)
theorem L.lenT(k:KE (f0 (R vs)) s):qN [f2 vs] s KE:=(tU _ _ H (.inl H) k)
theorem eH(h:s l=J (f1 vs))(hz:R vs<=th)(k:∀mc,s mc=sD->KE (Y mc) (ur s mc (f1 vs))):qO [Y l] s KE:=(uY _ _ H (.inr (ti _ H h)) hz k)
theorem fJ(hz:R vs<=th)(k:∀mc,s mc=sD->KE (Y mc) (ur s mc (f1 vs))):qO [f2 vs] s KE:=(uY _ _ H (.inl H) hz k)
theorem L.Ĥ(h:s l=J (f1 vs))(hz:R vs<=th)(k:KE (f2 vs) s):qP [Y l] s KE:=(tU _ _ H (.inr (tC _ H h hz)) k)
theorem dP(h:s l=J (f1 vs))(hz:R vs<=2 ^ 24 - 1)(k:KE .none (Mine.ur s l (f1 (vs++[v])))):qW [Y l,v] s KE:=(uQ _ _ _ H h hz k)
noncomputable def Hp:LS:=
(qo (qp 1 (pG (.int 0)))
(qo (qI (qJ (qj (U 0) (pG .none) (pG (.int 24)))) (qF 2)
(qo (qp 1 (pI pZ (pI pZ (pI pZ (pI p7 (U 1) (pG (.int 1000003))) (pI p7 (pG (.int 2)) (rz L.ã (pL (U 2) pK)))) (pP (pX qf (U 2) (pG (.int 0))) (pG (.int 1)) (pG (.int 0)))) (pG (.int 1))))
qm))
(qo (qt (pM (pL (U 1) (pL (pG (.int 0)) pK))))
qm)))
noncomputable def Hq:V LV->LP:=qz 1 [] 2 Hp
theorem OS(h:Hp [J b,sD,sD] s (tB KE)):Hq [b] s KE:=⟨H,h⟩
noncomputable def K8:LS:=qo (qv (pX L.gt (pI qi (U 0) (pG (.int 0))) (pG (.int 0))) (qo (qp 2 (pI p8 (pI qi (U 0) (pG (.int 0))) (U 1))) (qo (qB (U 0) (pG (.int 0)) (pI L.fdiv (pI qi (U 0) (pG (.int 0))) (U 1))) (qo (qt (U 2)) qm))) qm) (qo (qt (pI p8 (pI pZ (pI p7 (pI qi (U 0) (pG (.int 1))) (pI qi (U 0) (pG (.int 1)))) (pG (.int 1))) (U 1))) qm)
noncomputable def Fp:LS:=qo (qB (U 0) (pG (.int 1)) (pI pZ (pI qi (U 0) (pG (.int 1))) (pG (.int 1)))) K8
noncomputable def u9:V LV->LP:=qz 2 [] 1 Fp
theorem MN(h:Fp [J v,J b,sD] s (tB KE)):u9 [v,b] s KE:=⟨H,h⟩
noncomputable def DF:LS:=
(qo (qt (rg (qL (U 1)) 1 [0] (qF 0) pV (pI qi (pN (pL (pG (.str "a")) (pL (pG (.str "b")) (pL (pG (.str "s")) (pL (pG (.str "t")) (pL (pG (.str "s")) (pL (pG (.str "a")) pK))))))) (L.call u9 (pL (U 1) (pL (pG (.int 6)) pK))))))
qm)
noncomputable def zm:V LV->LP:=qz 2 [] 0 DF
theorem K9(h:DF [J v,J b] s (tB KE)):zm [v,b] s KE:=⟨H,h⟩
noncomputable def Hr:LS:=qo (qr (qV qT qW (U 2) (pL (pN (pL (U 4) (pL (L.call zm (pL (U 0) (pL (L.call u9 (pL (U 0) (pL (pG (.int 4)) pK))) pK))) pK))) pK))) qm
noncomputable def Iu:LS:=qo (qp 4 (pI qi (pN (pL (pG (.str "s")) (pL (pG (.str "t")) pK))) (L.call u9 (pL (U 0) (pL (pG (.int 2)) pK))))) Hr
noncomputable def JK:LS:=qo (qI (qL (U 1)) (qF 3) Iu) (qo (qt (U 2)) qm)
noncomputable def JL:LS:=qo (qr (qV qT qW (U 2) (pL (pN (pL (pG (.str "t")) (pL (pM (pL (pI qi (pN (pL (pG (.str "a")) (pL (pG (.str "b")) pK))) (L.call u9 (pL (U 0) (pL (pG (.int 2)) pK)))) pK)) pK))) pK))) JK
noncomputable def JM:LS:=qo (qr (qV qT qW (U 2) (pL (pN (pL (pG (.str "s")) (pL (pM (pL (pI qi (pN (pL (pG (.str "a")) (pL (pG (.str "b")) pK))) (L.call u9 (pL (U 0) (pL (pG (.int 2)) pK)))) pK)) pK))) pK))) JL
noncomputable def DG:LS:=qo (qp 1 (L.call u9 (pL (U 0) (pL (pG (.int 2)) pK)))) (qo (qp 2 (pM (pL (pN (pL (pG (.str "s")) (pL (L.call zm (pL (U 0) (pL (pI pZ (pG (.int 1)) (L.call u9 (pL (U 0) (pL (pG (.int 3)) pK)))) pK))) pK))) pK))) JM)
noncomputable def DH:V LV->LP:=qz 1 [] 4 DG
theorem La(h:DG [J b,sD,sD,sD,sD] s (tB KE)):DH [b] s KE:=⟨H,h⟩
noncomputable def Aw:LS:=
(qo (L.ZG 87 0 (U 0) (U 1))
(qo (L.ZG 87 1 (U 0) (U 2))
(qo (L.ZG 87 2 (U 0) (U 3))
(qo (L.ZG 87 3 (U 0) (U 4))
(qo (L.ZG 87 4 (U 0) (U 5))
(qo (L.ZG 87 5 (U 0) (U 6))
(qo (L.ZG 87 6 (U 0) (U 7))
qm)))))))
noncomputable def ya:V LV->LP:=qz 5 [.none,.int 0,.int 0] 0 Aw
theorem Ht(h:Aw [J v,J b,J ZM,J sy,J sv,J (.none),J (.int 0),J (.int 0)] s (tB KE)):ya [v,b,ZM,sy,sv] s KE:=⟨H,h⟩
noncomputable def yw:LS:=
(qo (qp 2 (pJ qe (pG (.int 1))))
(qo (qI (qJ (U 0)) (qF 3)
(qo (qv (pX qf (U 3) (U 1))
(qo (qp 2 (U 3))
qm)
qm)
qm))
(qo (qt (U 2))
qm)))
noncomputable def yx:V LV->LP:=qz 2 [] 2 yw
theorem Fq(h:yw [J v,J b,sD,sD] s (tB KE)):yx [v,b] s KE:=⟨H,h⟩
noncomputable def Ah:LS:=qo (qr (qV qT qW (pI qi (L.Zx 169 6 (U 0)) (L.Zx 87 1 (U 7))) (pL (L.Zx 87 0 (U 7)) pK))) (qo (qr (qV qT qW (L.Zx 169 7 (U 0)) (pL (rz qN (pL (L.Zx 169 8 (U 0)) pK)) pK))) (qo (qr (qV qT qX (L.Zx 169 8 (U 0)) (pL (pI p7 (pM (pL (L.Zx 87 0 (U 7)) pK)) (pI pZ (rz qN (pL (L.Zx 87 2 (U 7)) pK)) (pG (.int 1)))) pK))) qm))
noncomputable def Ep:LS:=qo (L.ZG 169 9 (U 0) (rz qN (pL (L.Zx 169 8 (U 0)) pK))) qm
noncomputable def Fs:LS:=qo (L.ZG 169 6 (U 0) (rg (qJ (L.Zx 169 0 (U 0))) 1 [ ] (qF 0) pV (pM pK))) (qo (L.ZG 169 7 (U 0) (pM pK)) (qo (L.ZG 169 8 (U 0) (pM pK)) (qo (qI (qJ (L.Zx 169 2 (U 0))) (qF 7) Ah) Ep)))
noncomputable def zo:LS:=qo (L.ZG 169 0 (U 0) (U 1)) (qo (L.ZG 169 1 (U 0) (U 2)) (qo (L.ZG 169 2 (U 0) (U 3)) (qo (L.ZG 169 3 (U 0) (U 4)) (qo (L.ZG 169 4 (U 0) (U 5)) (qo (L.ZG 169 5 (U 0) (U 6)) Fs)))))
noncomputable def zp:V LV->LP:=qz 7 [] 1 zo
theorem Gw(h:zo [J v,J b,J ZM,J sy,J sv,J wE,J d5,sD] s (tB KE)):zp [v,b,ZM,sy,sv,wE,d5] s KE:=⟨H,h⟩
noncomputable def yi:LS:=qo (qv (pU (pX (qk Zt) (U 3) (pG (.str "error"))) (pU (pX (ql Zt) (qj (U 3) (pG .none) (pG (.int 1))) (pN (pL (pG (.str "")) (pL (pG (.str "$")) (pL (pG (.str "'")) pK))))) pW)) (qo rh qm) qm) (qo (qv (pX (ql pH) (U 3) (U 2)) (qo (qr (qV qT qW (U 2) (pL (U 3) pK))) qm) qm) qm)
noncomputable def w9:LS:=qo (qv (pS (pX (ql pH) (U 7) (U 2)) (pS (pX (ql pH) (U 7) (U 6)) pV)) (qo (qr (qV qT qW (U 6) (pL (U 7) pK))) qm) qm) qm
noncomputable def Cy:LS:=qo (qI (qJ (U 4)) (qF 7) w9) qm
noncomputable def yj:LS:=qo (qp 10 (rz qP (pL (rg (qJ (U 4)) 1 [ 6 ] (qF 0) pV (qV qT qY (U 1) (pL (U 0) pK))) pK))) (qo (qr (qV qT qW (U 9) (pL (L.new 87 ya (pL (rz qN (pL (U 9) pK)) (pL (qV qT qY (U 6) (pL (U 3) pK)) (pL (U 10) (pL (L.call yx (pL (U 10) (pL (U 8) pK))) pK))))) pK))) qm)
noncomputable def Cz:LS:=qo (qt (L.new 169 zp (pL (U 6) (pL (U 8) (pL (U 9) (pL pO (pL (pG .none) (pL (qV qT qY (U 6) (pL (U 5) pK)) pK)))))))) qm
noncomputable def yU:LS:=qo (qp 9 (pM (pL (L.new 87 ya (pL (pG (.int 0)) (pL (U 8) (pL (pN (pL (qV qT qY (U 6) (pL (U 5) pK)) (pL (pG (.int 0)) pK))) (pL (pG (.int 0)) pK))))) pK))) (qo (qI (qJ (U 0)) (qG 3 4) yj) Cz)
noncomputable def yV:LS:=qo (qp 8 (rz qN (pL (U 6) pK))) (qo (qp 6 (pI pZ (pI pZ (U 6) (pM (pL (pG (.str "$accept")) pK))) (U 2))) yU)
noncomputable def xa:LS:=qo (qp 2 (pM pK)) (qo (qI (qJ (U 0)) (qG 3 4) yi) (qo (qp 5 (pP (pU (pX (λa ø=>qh a) (U 1) (pG .none)) (pU (pX (qk Zt) (U 2) (pM pK)) pW)) (U 1) (pI qi (U 2) (pG (.int 0))))) (qo (qv (pX (ql pH) (U 5) (U 2)) (qo rh qm) qm) (qo (qp 6 (rz qO (pL (pG (.tup (([ "$end" ,"error" ,"$undefined" ]:V ap).map .str))) pK))) (qo (qI (qJ (U 0)) (qG 3 4) Cy) yV)))))
noncomputable def xb:V LV->LP:=qz 1 [.none] 9 xa
theorem DI(h:xa [J b,J (.none),sD,sD,sD,sD,sD,sD,sD,sD,sD] s (tB KE)):xb [b] s KE:=⟨H,h⟩
noncomputable def zq:LS:=
(qo (L.ZG 264 0 (U 0) (U 1))
(qo (L.ZG 264 1 (U 0) (U 2))
(qo (L.ZG 264 2 (U 0) (U 3))
(qo (L.ZG 264 3 (U 0) (pM pK))
(qo (L.ZG 264 4 (U 0) pO)
(qo (L.ZG 264 5 (U 0) (pM pK))
qm))))))
noncomputable def zr:V LV->LP:=qz 4 [] 0 zq
theorem Gx(h:zq [J v,J b,J ZM,J sy] s (tB KE)):zr [v,b,ZM,sy] s KE:=⟨H,h⟩
noncomputable def wj:LS:=
(qo (qv (pX (ql pH) (U 1) (L.Zx 425 3 (U 0)))
(qo (qB (L.Zx 425 3 (U 0)) (U 1) (rz qN (pL (L.Zx 425 2 (U 0)) pK)))
(qo (qr (qV qT qW (L.Zx 425 2 (U 0)) (pL (L.new 264 zr (pL (rz qN (pL (L.Zx 425 2 (U 0)) pK)) (pL (U 1) (pL (U 2) pK)))) pK)))
qm))
qm)
(qo (qt (pI qi (L.Zx 425 3 (U 0)) (U 1)))
qm))
noncomputable def vu:V LV->LP:=qz 3 [] 0 wj
theorem CA(h:wj [J v,J b,J ZM] s (tB KE)):vu [v,b,ZM] s KE:=⟨H,h⟩
noncomputable def zt:LS:=
(qo (qt (pI pZ (pI qi (L.Zx 169 7 (U 0)) (U 1)) (U 2)))
qm)
noncomputable def ug:V LV->LP:=qz 3 [] 0 zt
theorem Gy(h:zt [J v,J b,J ZM] s (tB KE)):ug [v,b,ZM] s KE:=⟨H,h⟩
noncomputable def yz:LS:=
(qo (qp 2 (L.Zx 87 2 (pI qi (L.Zx 169 2 (U 0)) (pI qi (L.Zx 169 8 (U 0)) (U 1)))))
(qo (qp 3 (pI p6 (U 1) (pI qi (L.Zx 169 7 (U 0)) (pI qi (L.Zx 169 8 (U 0)) (U 1)))))
(qo (qt (pP (pX qf (U 3) (rz qN (pL (U 2) pK))) (pI qi (U 2) (U 3)) (pJ qe (pG (.int 1)))))
qm)))
noncomputable def uw:V LV->LP:=qz 2 [] 2 yz
theorem Ft(h:yz [J v,J b,sD,sD] s (tB KE)):uw [v,b] s KE:=⟨H,h⟩
noncomputable def yA:LS:=
(qo (qp 2 (pG (.int 0)))
(qo (qI (qJ (U 1)) (qF 3)
(qo (qp 4 (qC 169 uw (L.Zx 306 0 (U 0)) (pL (U 3) pK)))
(qo (qv (pX L.ge (U 4) (pG (.int 0)))
(qo (qp 2 (pI qa (pI qa (U 2) (pI qb (pG (.int 1)) (U 4))) (pI qi (L.Zx 306 1 (U 0)) (U 4))))
qm)
qm)
qm)))
(qo (qt (U 2))
qm)))
noncomputable def yB:V LV->LP:=qz 2 [] 3 yA
theorem Fu(h:yA [J v,J b,sD,sD,sD] s (tB KE)):yB [v,b] s KE:=⟨H,h⟩
noncomputable def MO:LS:=
(qo (qp 1 (pM pK))
(qo (qp 2 (pG (.int 0)))
(qo (qp 3 (U 0))
(qo (qw (pX L.gt (U 3) (pG (.int 0)))
(qo (qv (pX (qk Zt) (pI p9 (U 3) (pG (.int 1))) (pG (.int 1)))
(qo (qr (qV qT qW (U 1) (pL (U 2) pK)))
qm)
qm)
(qo (qp 3 (pI qc (U 3) (pG (.int 1))))
(qo (qp 2 (pI pZ (U 2) (pG (.int 1))))
qm))))
(qo (qt (U 1))
qm)))))
noncomputable def MP:V LV->LP:=qz 1 [] 3 MO
theorem So(h:MO [J b,sD,sD,sD] s (tB KE)):MP [b] s KE:=⟨H,h⟩
noncomputable def wG:LS:=
(qo (qt (rz qO (pL (pI qi (L.Zx 169 6 (U 0)) (U 1)) pK)))
qm)
noncomputable def uE:V LV->LP:=qz 2 [] 0 wG
theorem Df(h:wG [J v,J b] s (tB KE)):uE [v,b] s KE:=⟨H,h⟩
noncomputable def zu:LS:=
(qo (qp 2 (pM pK))
(qo (qI (qJ (L.call MP (pL (qC 306 yB (U 0) (pL (U 1) pK)) pK))) (qF 3)
(qo (qI (qJ (qC 169 uE (L.Zx 306 0 (U 0)) (pL (U 3) pK))) (qF 4)
(qo (qp 5 (qC 169 ug (L.Zx 306 0 (U 0)) (pL (U 4) (pL (pG (.int 0)) pK))))
(qo (qv (pX (ql pH) (U 5) (U 1))
(qo (qr (qV qT qW (U 2) (pL (U 5) pK)))
qm)
qm)
qm)))
qm))
(qo (qt (rz qS (pL (U 2) pK)))
qm)))
noncomputable def zv:V LV->LP:=qz 2 [] 4 zu
theorem Gz(h:zu [J v,J b,sD,sD,sD,sD] s (tB KE)):zv [v,b] s KE:=⟨H,h⟩
noncomputable def zw:LS:=
(qo (qt (pI pZ (rz qS (pL (U 1) pK)) (qC 306 zv (U 0) (pL (U 1) pK))))
qm)
noncomputable def zx:V LV->LP:=qz 2 [] 0 zw
theorem GB(h:zw [J v,J b] s (tB KE)):zx [v,b] s KE:=⟨H,h⟩
noncomputable def xc:LS:=
(qo (qt (pI qi (L.Zx 169 8 (U 0)) (U 1)))
qm)
noncomputable def tQ:V LV->LP:=qz 2 [] 0 xc
theorem DJ(h:xc [J v,J b] s (tB KE)):tQ [v,b] s KE:=⟨H,h⟩
noncomputable def xF:LS:=
(qo (qp 2 (pM pK))
(qo (qI (qJ (U 1)) (qF 3)
(qo (qv (pS (pX qf (qC 169 uw (U 0) (pL (U 3) pK)) (pG (.int 0))) (pS (pX (qk pH) (qC 169 tQ (U 0) (pL (U 3) pK)) (pG (.int 0))) pV))
(qo (qr (qV qT qW (U 2) (pL (qC 169 tQ (U 0) (pL (U 3) pK)) pK)))
qm)
qm)
qm))
(qo (qt (rz qS (pL (U 2) pK)))
qm)))
noncomputable def xG:V LV->LP:=qz 2 [] 2 xF
theorem Er(h:xF [J v,J b,sD,sD] s (tB KE)):xG [v,b] s KE:=⟨H,h⟩
noncomputable def xH:LS:=
(qo (qt (pI p6 (U 1) (pI qi (L.Zx 169 7 (U 0)) (pI qi (L.Zx 169 8 (U 0)) (U 1)))))
qm)
noncomputable def uq:V LV->LP:=qz 2 [] 0 xH
theorem Es(h:xH [J v,J b] s (tB KE)):uq [v,b] s KE:=⟨H,h⟩
noncomputable def DK:LS:=
(qo (qt (qC 169 ug (U 0) (pL (qC 169 tQ (U 0) (pL (U 1) pK)) (pL (pI pZ (qC 169 uq (U 0) (pL (U 1) pK)) (pG (.int 1))) pK))))
qm)
noncomputable def BB:V LV->LP:=qz 2 [] 0 DK
theorem Lb(h:DK [J v,J b] s (tB KE)):BB [v,b] s KE:=⟨H,h⟩
noncomputable def xd:LS:=qo (qr (qV qT qW (pI qi (U 2) (U 4)) (pL (L.call BB (pL (U 0) (pL (U 3) pK))) pK))) qm
noncomputable def yW:LS:=qo (qp 4 (qC 169 uw (U 0) (pL (U 3) pK))) (qo (qv (pX L.ge (U 4) (pG (.int 0))) (qo (qv (pX (ql pH) (U 4) (U 2)) (qo (qB (U 2) (U 4) (pM pK)) qm) qm) xd) qm) qm)
noncomputable def DM:LS:=qo (qp 5 pO) (qo (qI (qJ (rz qS (pL (U 2) pK))) (qF 4) (qo (qB (U 5) (U 4) (rz qP (pL (rz qS (pL (pI qi (U 2) (U 4)) pK)) pK))) qm)) (qo (qt (U 5)) qm))
noncomputable def xI:LS:=qo (qp 2 pO) (qo (qI (qJ (U 1)) (qF 3) yW) DM)
noncomputable def xJ:V LV->LP:=qz 2 [] 4 xI
theorem Et(h:xI [J v,J b,sD,sD,sD,sD] s (tB KE)):xJ [v,b] s KE:=⟨H,h⟩
noncomputable def xK:LS:=
(qo (L.ZG 264 3 (U 1) (qC 306 zx (L.Zx 425 1 (U 0)) (pL (L.Zx 264 1 (U 1)) pK)))
(qo (L.ZG 264 5 (U 1) (L.call xG (pL (L.Zx 425 0 (U 0)) (pL (L.Zx 264 3 (U 1)) pK))))
(qo (qp 2 (L.call xJ (pL (L.Zx 425 0 (U 0)) (pL (L.Zx 264 3 (U 1)) pK))))
(qo (qM (qI (qK (U 2)) (qF 3)
(qo (qB (L.Zx 264 4 (U 1)) (U 3) (qC 425 vu (U 0) (pL (pI qi (U 2) (U 3)) (pL (U 3) pK))))
qm)))
qm))))
noncomputable def xM:V LV->LP:=qz 2 [] 2 xK
theorem Eu(h:xK [J v,J b,sD,sD] s (tB KE)):xM [v,b] s KE:=⟨H,h⟩
noncomputable def xN:LS:=
(qo (L.ZG 383 0 (U 0) (U 1))
(qo (L.ZG 383 1 (U 0) (U 2))
qm))
noncomputable def A6:V LV->LP:=qz 3 [] 0 xN
theorem Ew(h:xN [J v,J b,J ZM] s (tB KE)):A6 [v,b,ZM] s KE:=⟨H,h⟩
noncomputable def yC:LS:=
(qo (qr (qC 425 vu (U 0) (pL (pN (pL (qC 169 ug (L.Zx 425 0 (U 0)) (pL (pG (.int 0)) (pL (pG (.int 0)) pK))) pK)) (pL (pG (.int (-1))) pK))))
(qo (qp 1 (pG (.int 0)))
(qo (qw (pX qf (U 1) (rz qN (pL (L.Zx 425 2 (U 0)) pK)))
(qo (qr (qC 425 xM (U 0) (pL (pI qi (L.Zx 425 2 (U 0)) (U 1)) pK)))
(qo (qp 1 (pI pZ (U 1) (pG (.int 1))))
qm)))
(qo (qt (L.new 383 A6 (pL (L.Zx 425 0 (U 0)) (pL (L.Zx 425 2 (U 0)) pK))))
qm))))
noncomputable def yD:V LV->LP:=qz 1 [] 1 yC
theorem Fv(h:yC [J b,sD] s (tB KE)):yD [b] s KE:=⟨H,h⟩
noncomputable def vH:LS:=
(qo (qt (rz qN (pL (L.Zx 169 0 (U 0)) pK)))
qm)
noncomputable def t7:V LV->LP:=qz 1 [] 0 vH
theorem A7(h:vH [J b] s (tB KE)):t7 [b] s KE:=⟨H,h⟩
noncomputable def BC:LS:=
(qo (qp 1 (rz qO (pL (U 0) pK)))
(qo (qI (qL (rz qN (pL (U 1) pK))) (qF 2)
(qo (qI (qL (rz qN (pL (U 1) pK))) (qF 3)
(qo (qv (pX (qk Zt) (pI p9 (pI qc (pI qi (U 1) (U 3)) (U 2)) (pG (.int 1))) (pG (.int 1)))
(qo (qB (U 1) (U 3) (pI qa (pI qi (U 1) (U 3)) (pI qi (U 1) (U 2))))
qm)
qm)
qm))
qm))
(qo (qt (U 1))
qm)))
noncomputable def BD:V LV->LP:=qz 1 [] 3 BC
theorem Iv(h:BC [J b,sD,sD,sD] s (tB KE)):BD [b] s KE:=⟨H,h⟩
noncomputable def Ax:LS:=
(qo (L.ZG 306 0 (U 0) (U 1))
(qo (qp 2 (pI p7 (pM (pL (pG (.int 0)) pK)) (qC 169 t7 (U 1) pK)))
(qo (qI (qJ (L.Zx 169 2 (U 1))) (qF 3)
(qo (qv (pX L.gt (rz qN (pL (L.Zx 87 2 (U 3)) pK)) (pG (.int 0)))
(qo (qB (U 2) (L.Zx 87 1 (U 3)) (pI qa (pI qi (U 2) (L.Zx 87 1 (U 3))) (pI qb (pG (.int 1)) (pI qi (L.Zx 87 2 (U 3)) (pG (.int 0))))))
qm)
qm)
qm))
(qo (L.ZG 306 1 (U 0) (L.call BD (pL (U 2) pK)))
qm))))
noncomputable def Ay:V LV->LP:=qz 2 [] 2 Ax
theorem Hu(h:Ax [J v,J b,sD,sD] s (tB KE)):Ay [v,b] s KE:=⟨H,h⟩
noncomputable def zy:LS:=
(qo (L.ZG 425 0 (U 0) (U 1))
(qo (L.ZG 425 1 (U 0) (L.new 306 Ay (pL (U 1) pK)))
(qo (L.ZG 425 2 (U 0) (pM pK))
(qo (L.ZG 425 3 (U 0) pO)
qm))))
noncomputable def CB:V LV->LP:=qz 2 [] 0 zy
theorem GC(h:zy [J v,J b] s (tB KE)):CB [v,b] s KE:=⟨H,h⟩
noncomputable def JN:LS:=
(qo (qt (qC 425 yD (L.new 425 CB (pL (U 0) pK)) pK))
qm)
noncomputable def JO:V LV->LP:=qz 1 [] 0 JN
theorem P6(h:JN [J b] s (tB KE)):JO [b] s KE:=⟨H,h⟩
noncomputable def Lc:LS:=qo (qp 7 (pG (.int 0))) (qo (qI (qJ (L.Zx 87 2 (U 6))) (qF 8) (qo (qv (pR (pQ (pI qi (U 2) (U 8)))) (qo (qp 7 (pI pZ (U 7) (pG (.int 1)))) (qo (qr (qV qT qW (pI qi (U 4) (U 8)) (pL (L.Zx 87 0 (U 6)) pK))) qm)) qm) qm)) (qo (qr (qV qT qW (U 3) (pL (U 7) pK))) qm))
noncomputable def Du:LS:=qo (qB (U 3) (U 10) (pI p6 (pI qi (U 3) (U 10)) (pG (.int 1)))) (qo (qp 11 (L.Zx 87 1 (pI qi (L.Zx 169 2 (U 0)) (U 10)))) (qo (qv (pS (pX (qk Zt) (pI qi (U 3) (U 10)) (pG (.int 0))) (pS (pR (pQ (pI qi (U 2) (U 11)))) pV)) (qo (qB (U 2) (U 11) (pG (.bool pH))) (qo (qr (qV qT qW (U 5) (pL (U 11) pK))) qm)) qm) qm))
noncomputable def Ey:LS:=qo (qp 9 (pI pZ (U 9) (pG (.int 1)))) qm
noncomputable def Gg:LS:=qo (qI (qJ (pI qi (U 4) (pI qi (U 5) (U 9)))) (qF 10) Du) Ey
noncomputable def Hv:LS:=qo (qt (U 2)) qm
noncomputable def Hw:LS:=qo (qw (pX qf (U 9) (rz qN (pL (U 5) pK))) Gg) Hv
noncomputable def MQ:LS:=qo (qp 9 (pG (.int 0))) Hw
noncomputable def Hx:LS:=qo (qI (qJ (L.Zx 169 2 (U 0))) (qF 6) (qo (qv (pS (pX (qk Zt) (pI qi (U 3) (L.Zx 87 0 (U 6))) (pG (.int 0))) (pS (pR (pQ (pI qi (U 2) (L.Zx 87 1 (U 6))))) pV)) (qo (qB (U 2) (L.Zx 87 1 (U 6)) (pG (.bool pH))) (qo (qr (qV qT qW (U 5) (pL (L.Zx 87 1 (U 6)) pK))) qm)) qm) qm)) MQ
noncomputable def Hy:LS:=qo (qI (qJ (L.Zx 169 2 (U 0))) (qF 6) Lc) Hx
noncomputable def Hz:LS:=qo (qp 2 (rz qO (pL (U 1) pK))) (qo (qp 3 (pM pK)) (qo (qp 4 (rg (qJ (U 2)) 1 [ ] (qF 0) pV (pM pK))) (qo (qp 5 (pM pK)) Hy)))
noncomputable def HA:V LV->LP:=qz 2 [] 10 Hz
theorem OT(h:Hz [J v,J b,sD,sD,sD,sD,sD,sD,sD,sD,sD,sD] s (tB KE)):HA [v,b] s KE:=⟨H,h⟩
noncomputable def DN:LS:=
(qo (qt (L.call HA (pL (U 0) (pL (pI p7 (pM (pL (pG (.bool Zt)) pK)) (qC 169 t7 (U 0) pK)) pK))))
qm)
noncomputable def xO:V LV->LP:=qz 1 [] 0 DN
theorem Ld(h:DN [J b] s (tB KE)):xO [b] s KE:=⟨H,h⟩
noncomputable def vT:LS:=
(qo (qt (pI qf (U 1) (L.Zx 169 1 (U 0))))
qm)
noncomputable def tN:V LV->LP:=qz 2 [] 0 vT
theorem BE(h:vT [J v,J b] s (tB KE)):tN [v,b] s KE:=⟨H,h⟩
noncomputable def uz:LS:=
(qo (qp 1 (L.Zx 383 0 (L.Zx 500 0 (U 0))))
(qo (qI (qJ (L.Zx 383 1 (L.Zx 500 0 (U 0)))) (qF 2)
(qo (qI (qJ (rz qS (pL (L.Zx 264 4 (U 2)) pK))) (qF 3)
(qo (qv (pR (pQ (qC 169 tN (U 1) (pL (U 3) pK))))
(qo (qB (L.Zx 500 3 (U 0)) (pN (pL (L.Zx 264 0 (U 2)) (pL (U 3) pK))) (rz qN (pL (L.Zx 500 2 (U 0)) pK)))
(qo (qr (qV qT qW (L.Zx 500 2 (U 0)) (pL (pN (pL (L.Zx 264 0 (U 2)) (pL (U 3) pK))) pK)))
qm))
qm)
qm))
qm))
qm))
noncomputable def tX:V LV->LP:=qz 1 [] 3 uz
theorem xe(h:uz [J b,sD,sD,sD] s (tB KE)):tX [b] s KE:=⟨H,h⟩
noncomputable def zA:LS:=
(qo (qt (qV qU qZ (L.Zx 264 4 (U 0)) (pL (U 1) (pL (pG (.int (-1))) pK))))
qm)
noncomputable def CD:V LV->LP:=qz 2 [] 0 zA
theorem GD(h:zA [J v,J b] s (tB KE)):CD [v,b] s KE:=⟨H,h⟩
noncomputable def xP:LS:=
(qo (qt (qC 264 CD (pI qi (L.Zx 383 1 (U 0)) (U 1)) (pL (U 2) pK)))
qm)
noncomputable def uW:V LV->LP:=qz 3 [] 0 xP
theorem Ez(h:xP [J v,J b,J ZM] s (tB KE)):uW [v,b,ZM] s KE:=⟨H,h⟩
noncomputable def vD:LS:=
(qo (qp 1 (L.Zx 383 0 (L.Zx 500 0 (U 0))))
(qo (qI (qJ (L.Zx 500 2 (U 0))) (qG 2 3)
(qo (qp 4 (qC 383 uW (L.Zx 500 0 (U 0)) (pL (U 2) (pL (U 3) pK))))
(qo (qp 5 (pG (.int 0)))
(qo (qp 6 (pM pK))
(qo (qp 7 (L.Zx 264 4 (pI qi (L.Zx 383 1 (L.Zx 500 0 (U 0))) (U 4))))
(qo (qI (qJ (rz qS (pL (U 7) pK))) (qF 8)
(qo (qv (pQ (qC 169 tN (U 1) (pL (U 8) pK)))
(qo (qp 5 (pI qa (U 5) (pI qb (pG (.int 1)) (U 8))))
qm)
(qo (qv (pQ (pI qi (L.Zx 500 1 (U 0)) (U 8)))
(qo (qr (qV qT qW (U 6) (pL (pI qi (L.Zx 500 3 (U 0)) (pN (pL (U 4) (pL (U 8) pK)))) pK)))
qm)
qm)
qm))
qm))
(qo (qr (qV qT qW (L.Zx 500 4 (U 0)) (pL (U 5) pK)))
(qo (qr (qV qT qW (L.Zx 500 5 (U 0)) (pL (U 6) pK)))
qm))))))))
qm))
noncomputable def uN:V LV->LP:=qz 1 [] 8 vD
theorem Az(h:vD [J b,sD,sD,sD,sD,sD,sD,sD,sD] s (tB KE)):uN [b] s KE:=⟨H,h⟩
noncomputable def vI:LS:=
(qo (qp 2 (rz qN (pL (U 1) pK)))
(qo (qw (pS (pX L.gt (U 2) (pG (.int 0))) (pS (pQ (pI qi (L.Zx 500 1 (U 0)) (pI qi (U 1) (pI p6 (U 2) (pG (.int 1)))))) pV))
(qo (qp 2 (pI p6 (U 2) (pG (.int 1))))
qm))
(qo (qt (rz L.maxOf (pL (pI p6 (U 2) (pG (.int 1))) (pL (pG (.int 0)) pK))))
qm)))
noncomputable def vJ:V LV->LP:=qz 2 [] 1 vI
theorem A8(h:vI [J v,J b,sD] s (tB KE)):vJ [v,b] s KE:=⟨H,h⟩
noncomputable def DO:LS:=
(qo (qv (pX (ql pH) (U 1) (U 0))
(qo (qr (qV qT qW (U 0) (pL (U 1) pK)))
qm)
qm)
qm)
noncomputable def zB:V LV->LP:=qz 2 [] 0 DO
theorem Lf(h:DO [J v,J b] s (tB KE)):zB [v,b] s KE:=⟨H,h⟩
noncomputable def xq:LS:=qo (qB (L.Zx 500 8 (U 0)) (pN (pL (L.Zx 264 0 (U 2)) (pL (U 3) pK))) (pM pK)) qm
noncomputable def vF:LS:=qo (qI (qJ (L.Zx 264 5 (U 2))) (qF 3) xq) qm
noncomputable def u0:LS:=qo (qp 9 (qC 383 uW (L.Zx 500 0 (U 0)) (pL (U 9) (pL (U 11) pK)))) qm
noncomputable def wH:LS:=qo (qv (pS (pX L.ge (U 10) (U 8)) (pS (pR (pQ (qC 169 tN (U 1) (pL (U 11) pK)))) pV)) (qo (qp 12 (pI qi (L.Zx 500 3 (U 0)) (pN (pL (U 9) (pL (U 11) pK))))) (qo (qr (L.call zB (pL (pI qi (L.Zx 500 6 (U 0)) (U 12)) (pL (U 4) pK)))) (qo (qv (pX (qk Zt) (U 10) (pG (.int 0))) (qo (qr (L.call zB (pL (pI qi (L.Zx 500 7 (U 0)) (U 12)) (pL (U 4) pK)))) qm) qm) qm))) qm) u0
noncomputable def u3:LS:=qo (qp 11 (pI qi (U 7) (U 10))) wH
noncomputable def vr:LS:=qo (qp 7 (L.Zx 87 2 (pI qi (L.Zx 169 2 (U 1)) (U 3)))) (qo (qp 8 (qC 500 vJ (U 0) (pL (U 7) pK))) (qo (qp 9 (U 5)) (qo (qI (qL (rz qN (pL (U 7) pK))) (qF 10) u3) (qo (qr (L.call zB (pL (pI qi (L.Zx 500 8 (U 0)) (pN (pL (U 9) (pL (U 3) pK)))) (pL (U 4) pK)))) qm))))
noncomputable def yk:LS:=qo (rA (qG 5 6) (pI qi (L.Zx 500 2 (U 0)) (U 4))) (qo (qI (qJ (qC 169 uE (U 1) (pL (U 6) pK))) (qF 3) vr) qm)
noncomputable def uk:LS:=qo (qI (qL (rz qN (pL (L.Zx 500 2 (U 0)) pK))) (qF 4) yk) qm
noncomputable def u1:LS:=qo (qp 1 (L.Zx 383 0 (L.Zx 500 0 (U 0)))) (qo (qI (qJ (L.Zx 383 1 (L.Zx 500 0 (U 0)))) (qF 2) vF) uk)
noncomputable def uu:V LV->LP:=qz 1 [] 12 u1
theorem zd(h:u1 [J b,sD,sD,sD,sD,sD,sD,sD,sD,sD,sD,sD,sD] s (tB KE)):uu [b] s KE:=⟨H,h⟩
noncomputable def zC:LS:=qo (qr (qV qT qW (U 6) (pL (U 11) pK))) (qo (qB (U 4) (U 11) (rz qN (pL (U 6) pK))) (qo (qr (qV qT qW (U 8) (pL (pM (pL (U 11) (pL (rz qN (pL (U 6) pK)) (pL (pG (.int 0)) pK)))) pK))) (qo qu qm)))
noncomputable def xf:LS:=qo (qB (U 9) (pG (.int 2)) (pI pZ (pI qi (U 9) (pG (.int 2))) (pG (.int 1)))) (qo (qv (pX qf (pI qi (U 4) (U 11)) (pI qi (U 4) (U 10))) (qo (qB (U 4) (U 10) (pI qi (U 4) (U 11))) qm) qm) (qo (qB (U 3) (U 10) (pI qa (pI qi (U 3) (U 10)) (pI qi (U 3) (U 11)))) (qo qu qm)))
noncomputable def Fw:LS:=qo (qp 11 (pI qi (pI qi (U 1) (U 10)) (pI qi (U 9) (pG (.int 2))))) (qo (qv (pX (qk Zt) (pI qi (U 4) (U 11)) (pG (.int 0))) zC qm) xf)
noncomputable def DP:LS:=qo (qp 12 (qV qT L.pop (U 6) pK)) (qo (qB (U 4) (U 12) (U 5)) (qo (qB (U 3) (U 12) (pI qi (U 3) (U 10))) qm))
noncomputable def Ai:LS:=qo (qw (pX (qk pH) (U 12) (U 10)) DP) qm
noncomputable def yE:LS:=qo (qr (qV qT L.pop (U 8) pK)) (qo (qv (pX (qk Zt) (pI qi (U 4) (U 10)) (pI qi (U 9) (pG (.int 1)))) (qo (qp 12 (pJ qe (pG (.int 1)))) Ai) qm) qm)
noncomputable def zD:LS:=qo (qp 9 (pI qi (U 8) (pJ qe (pG (.int 1))))) (qo (qp 10 (pI qi (U 9) (pG (.int 0)))) (qo (qv (pX qf (pI qi (U 9) (pG (.int 2))) (rz qN (pL (pI qi (U 1) (U 10)) pK))) Fw qm) yE))
noncomputable def EA:LS:=qo (qv (pX (qk pH) (pI qi (U 4) (U 7)) (pG (.int 0))) (qo qu qm) qm) (qo (qr (qV qT qW (U 6) (pL (U 7) pK))) (qo (qB (U 4) (U 7) (rz qN (pL (U 6) pK))) (qo (qp 8 (pM (pL (pM (pL (U 7) (pL (rz qN (pL (U 6) pK)) (pL (pG (.int 0)) pK)))) pK))) (qo (qw (pQ (U 8)) zD) qm))))
noncomputable def Fx:LS:=qo (qp 3 (rz qO (pL (U 2) pK))) (qo (qp 4 (pI p7 (pM (pL (pG (.int 0)) pK)) (U 0))) (qo (qp 5 (pI pZ (U 0) (pG (.int 1)))) (qo (qp 6 (pM pK)) (qo (qI (qL (U 0)) (qF 7) EA) (qo (qt (U 3)) qm)))))
noncomputable def zg:V LV->LP:=qz 3 [] 10 Fx
theorem MR(h:Fx [J v,J b,J ZM,sD,sD,sD,sD,sD,sD,sD,sD,sD,sD] s (tB KE)):zg [v,b,ZM] s KE:=⟨H,h⟩
noncomputable def u6:LS:=
(qo (qp 1 pO)
(qo (qM (qI (qK (L.Zx 500 8 (U 0))) (qF 2)
(qo (qp 3 (pG (.int 0)))
(qo (qI (qJ (pI qi (L.Zx 500 8 (U 0)) (U 2))) (qF 4)
(qo (qp 3 (pI qa (U 3) (pI qi (L.Zx 500 10 (U 0)) (U 4))))
qm))
(qo (qB (U 1) (U 2) (U 3))
qm)))))
(qo (qt (U 1))
qm)))
noncomputable def uA:V LV->LP:=qz 1 [] 4 u6
theorem zE(h:u6 [J b,sD,sD,sD,sD] s (tB KE)):uA [b] s KE:=⟨H,h⟩
noncomputable def xg:LS:=
(qo (L.ZG 500 0 (U 0) (U 1))
(qo (L.ZG 500 1 (U 0) (L.call xO (pL (L.Zx 383 0 (U 1)) pK)))
(qo (L.ZG 500 2 (U 0) (pM pK))
(qo (L.ZG 500 3 (U 0) pO)
(qo (qr (qC 500 tX (U 0) pK))
(qo (L.ZG 500 4 (U 0) (pM pK))
(qo (L.ZG 500 5 (U 0) (pM pK))
(qo (qr (qC 500 uN (U 0) pK))
(qo (L.ZG 500 6 (U 0) (rg (qJ (L.Zx 500 2 (U 0))) 1 [] (qF 0) pV (pM pK)))
(qo (L.ZG 500 7 (U 0) (rg (qJ (L.Zx 500 2 (U 0))) 1 [] (qF 0) pV (pM pK)))
(qo (L.ZG 500 8 (U 0) pO)
(qo (qr (qC 500 uu (U 0) pK))
(qo (qp 2 (rz qN (pL (L.Zx 500 2 (U 0)) pK)))
(qo (L.ZG 500 9 (U 0) (L.call zg (pL (U 2) (pL (L.Zx 500 5 (U 0)) (pL (L.Zx 500 4 (U 0)) pK)))))
(qo (L.ZG 500 10 (U 0) (L.call zg (pL (U 2) (pL (L.Zx 500 6 (U 0)) (pL (L.Zx 500 9 (U 0)) pK)))))
(qo (L.ZG 500 11 (U 0) (qC 500 uA (U 0) pK))
qm))))))))))))))))
noncomputable def Aj:V LV->LP:=qz 2 [] 1 xg
theorem DQ(h:xg [J v,J b,sD] s (tB KE)):Aj [v,b] s KE:=⟨H,h⟩
noncomputable def BF:LS:=
(qo (qt (L.Zx 500 11 (L.new 500 Aj (pL (U 0) pK))))
qm)
noncomputable def BG:V LV->LP:=qz 1 [] 0 BF
theorem Iw(h:BF [J b] s (tB KE)):BG [b] s KE:=⟨H,h⟩
noncomputable def CE:LS:=
(qo (L.ZG 696 0 (U 0) (U 1))
(qo (L.ZG 696 1 (U 0) (U 2))
(qo (L.ZG 696 2 (U 0) (U 3))
(qo (L.ZG 696 3 (U 0) (U 4))
qm))))
noncomputable def Gh:V LV->LP:=qz 5 [] 0 CE
theorem JQ(h:CE [J v,J b,J ZM,J sy,J sv] s (tB KE)):Gh [v,b,ZM,sy,sv] s KE:=⟨H,h⟩
noncomputable def CF:LS:=
(qo (qp 1 (L.call JO (pL (U 0) pK)))
(qo (qt (L.new 696 Gh (pL (U 0) (pL (U 1) (pL (rg (qJ (L.Zx 383 1 (U 1))) 1 [] (qF 0) pV (L.Zx 264 1 (U 0))) (pL (L.call BG (pL (U 1) pK)) pK))))))
qm))
noncomputable def CG:V LV->LP:=qz 1 [] 1 CF
theorem JR(h:CF [J b,sD] s (tB KE)):CG [b] s KE:=⟨H,h⟩
noncomputable def yF:LS:=
(qo (L.ZG 746 0 (U 0) (U 1))
(qo (L.ZG 746 1 (U 0) (U 2))
(qo (L.ZG 746 2 (U 0) (U 3))
(qo (L.ZG 746 3 (U 0) (U 4))
(qo (L.ZG 746 4 (U 0) (U 5))
qm)))))
noncomputable def ve:V LV->LP:=qz 6 [] 0 yF
theorem Fy(h:yF [J v,J b,J ZM,J sy,J sv,J wE] s (tB KE)):ve [v,b,ZM,sy,sv,wE] s KE:=⟨H,h⟩
noncomputable def Cc:LS:=qo (qr (qV qT qW (U 1) (pL (L.new 746 ve (pL (L.Zx 264 0 (U 3)) (pL (U 4) (pL (pG (.str "reduce/reduce")) (pL (pN (pL (pI qi (U 5) (pG (.int 0))) (pL (U 6) pK))) (pL (pI p6 (pG (.int 0)) (pI qi (U 5) (pG (.int 0)))) pK)))))) pK))) qm
noncomputable def v9:LS:=qo (qI (qJ (qj (U 5) (pG (.int 1)) (pG .none))) (qF 6) Cc) qm
noncomputable def CH:LS:=qo (qv (pS (pX (qk pH) (U 5) (pM pK)) (pS (pX (ql Zt) (U 4) (L.Zx 264 4 (U 3))) pV)) (qo (qr (qV qT qW (U 1) (pL (L.new 746 ve (pL (L.Zx 264 0 (U 3)) (pL (U 4) (pL (pG (.str "shift/reduce")) (pL (rz qP (pL (U 5) pK)) (pL (pI qi (L.Zx 264 4 (U 3)) (U 4)) pK)))))) pK))) qm) qm) v9
noncomputable def yX:LS:=qo (qp 5 (rg (qJ (L.Zx 264 5 (U 3))) 1 [ 4 ,0 ,3 ] (qF 0) (pX (qk Zt) (pI p8 (pI L.fdiv (pI qi (L.Zx 696 3 (U 2)) (pN (pL (L.Zx 264 0 (U 3)) (pL (U 0) pK)))) (pI qb (pG (.int 1)) (U 1))) (pG (.int 2))) (pG (.int 1))) (U 0))) CH
noncomputable def EB:LS:=qo (qI (qL (U 2)) (qF 4) yX) qm
noncomputable def Fz:LS:=qo (qI (qJ (L.Zx 383 1 (L.Zx 696 1 (U 0)))) (qF 3) EB) (qo (qt (U 1)) qm)
noncomputable def zF:LS:=qo (qp 1 (pM pK)) (qo (qp 2 (L.Zx 169 1 (L.Zx 696 0 (U 0)))) Fz)
noncomputable def zG:V LV->LP:=qz 1 [] 6 zF
theorem GF(h:zF [J b,sD,sD,sD,sD,sD,sD] s (tB KE)):zG [b] s KE:=⟨H,h⟩
noncomputable def DR:LS:=
(qo (qp 3 (pG (.int 0)))
(qo (qI (qJ (U 0)) (qF 4)
(qo (qp 3 (pI qa (U 3) (pI qi (U 2) (U 4))))
(qo (qv (pR (pQ (pI qi (U 1) (U 4))))
(qo (qt (pN (pL (U 3) (pL (pG (.bool Zt)) pK))))
qm)
qm)
qm)))
(qo (qt (pN (pL (U 3) (pL (pG (.bool pH)) pK))))
qm)))
noncomputable def BH:V LV->LP:=qz 3 [] 2 DR
theorem Lg(h:DR [J v,J b,J ZM,sD,sD] s (tB KE)):BH [v,b,ZM] s KE:=⟨H,h⟩
noncomputable def zH:LS:=qo (qp 6 (pI qa (pI qi (U 2) (L.Zx 87 1 (U 5))) (pI qi (L.call BH (pL (L.Zx 87 2 (U 5)) (pL (U 1) (pL (U 2) pK)))) (pG (.int 0))))) (qo (qv (pX (qk pH) (U 6) (pI qi (U 2) (L.Zx 87 1 (U 5)))) (qo (qB (U 2) (L.Zx 87 1 (U 5)) (U 6)) (qo (qp 4 (pG (.bool pH))) qm)) qm) qm)
noncomputable def A9:LS:=qo (qp 4 (pG (.bool Zt))) (qo (qI (qJ (L.Zx 169 2 (U 0))) (qF 5) zH) qm)
noncomputable def GG:LS:=qo (qw (pQ (U 4)) A9) (qo (qt (U 2)) qm)
noncomputable def AA:LS:=qo (qp 1 (L.call xO (pL (U 0) pK))) (qo (qp 2 (pM pK)) (qo (qI (qL (qC 169 t7 (U 0) pK)) (qF 3) (qo (qr (qV qT qW (U 2) (pL (pP (pQ (qC 169 tN (U 0) (pL (U 3) pK))) (pI qb (pG (.int 1)) (U 3)) (pG (.int 0))) pK))) qm)) (qo (qp 4 (pG (.bool pH))) GG)))
noncomputable def AB:V LV->LP:=qz 1 [] 6 AA
theorem HB(h:AA [J b,sD,sD,sD,sD,sD,sD] s (tB KE)):AB [b] s KE:=⟨H,h⟩
noncomputable def AD:LS:=
(qo (L.ZG 656 0 (U 0) (U 1))
(qo (L.ZG 656 1 (U 0) (L.Zx 383 0 (U 1)))
(qo (L.ZG 656 2 (U 0) (L.call xO (pL (L.Zx 656 1 (U 0)) pK)))
(qo (L.ZG 656 3 (U 0) (L.call AB (pL (L.Zx 656 1 (U 0)) pK)))
qm))))
noncomputable def AE:V LV->LP:=qz 2 [] 0 AD
theorem HC(h:AD [J v,J b] s (tB KE)):AE [v,b] s KE:=⟨H,h⟩
noncomputable def yG:LS:=
(qo (qt (qC 169 ug (L.Zx 696 0 (U 0)) (pL (U 1) (pL (rz qN (pL (L.Zx 87 2 (pI qi (L.Zx 169 2 (L.Zx 696 0 (U 0))) (U 1))) pK)) pK))))
qm)
noncomputable def yH:V LV->LP:=qz 2 [] 0 yG
theorem FC(h:yG [J v,J b] s (tB KE)):yH [v,b] s KE:=⟨H,h⟩
noncomputable def yI:LS:=
(qo (qp 2 (rz qO (pL (pI qi (L.Zx 696 2 (U 0)) (U 1)) pK)))
(qo (qt (pI pZ (U 2) (rz qS (pL (rg (qJ (L.Zx 264 3 (pI qi (L.Zx 383 1 (L.Zx 696 1 (U 0))) (U 1)))) 1 [2] (qF 0) (pX (ql pH) (U 0) (U 1)) (U 0)) pK))))
qm))
noncomputable def yJ:V LV->LP:=qz 2 [] 1 yI
theorem FE(h:yI [J v,J b,sD] s (tB KE)):yJ [v,b] s KE:=⟨H,h⟩
noncomputable def Cd:LS:=qo (qv (pX (qk Zt) (qC 169 uw (L.Zx 696 0 (U 0)) (pL (U 3) pK)) (L.Zx 746 1 (U 1))) (qo (qt (pI pZ (U 2) (pM (pL (U 3) pK)))) qm) qm) qm
noncomputable def Dh:LS:=qo (qI (qJ (qC 696 yJ (U 0) (pL (L.Zx 746 0 (U 1)) pK))) (qF 3) Cd) qm
noncomputable def DS:LS:=qo (qt (U 2)) qm
noncomputable def xQ:LS:=qo (qp 2 (rg (qJ (L.Zx 746 3 (U 1))) 1 [ 0 ] (qF 0) pV (qC 696 yH (U 1) (pL (U 0) pK)))) (qo (qv (pX (qk Zt) (L.Zx 746 2 (U 1)) (pG (.str "shift/reduce"))) Dh qm) DS)
noncomputable def xR:V LV->LP:=qz 2 [] 2 xQ
theorem EC(h:xQ [J v,J b,sD,sD] s (tB KE)):xR [v,b] s KE:=⟨H,h⟩
noncomputable def AF:LS:=
(qo (qp 2 (L.Zx 656 1 (U 0)))
(qo (qt (rz qP (pL (qj (L.Zx 87 2 (pI qi (L.Zx 169 2 (U 2)) (qC 169 tQ (U 2) (pL (U 1) pK)))) (pI pZ (qC 169 uq (U 2) (pL (U 1) pK)) (pG (.int 1))) (pG .none)) pK)))
qm))
noncomputable def yb:V LV->LP:=qz 2 [] 1 AF
theorem HD(h:AF [J v,J b,sD] s (tB KE)):yb [v,b] s KE:=⟨H,h⟩
noncomputable def CI:LS:=
(qo (L.ZG 577 0 (U 0) (U 1))
(qo (L.ZG 577 1 (U 0) (U 2))
qm))
noncomputable def Gi:V LV->LP:=qz 3 [] 0 CI
theorem JS(h:CI [J v,J b,J ZM] s (tB KE)):Gi [v,b,ZM] s KE:=⟨H,h⟩
noncomputable def xu:LS:=qo (rA (qG 5 6) (pI qi (U 1) (U 2))) (qo (qv (pX L.ge (U 5) (pG (.int 0))) (qo (qr (qV qT qW (U 3) (pL (U 5) pK))) qm) (qo (qr (qV qT qW (U 4) (pL (qC 656 yb (U 0) (pL (pI qi (U 6) (pG (.int 1))) pK)) pK))) qm)) (qo (qp 2 (U 6)) qm))
noncomputable def wI:LS:=qo (qp 3 (pM pK)) (qo (qp 4 (pM pK)) (qo (qw (pX (λa ø=>qh a) (pI qi (U 1) (U 2)) (pG .none)) xu) (qo (qt (L.new 577 Gi (pL (L.å (U 3)) (pL (U 4) pK)))) qm)))
noncomputable def wJ:V LV->LP:=qz 3 [] 4 wI
theorem Di(h:wI [J v,J b,J ZM,sD,sD,sD,sD] s (tB KE)):wJ [v,b,ZM] s KE:=⟨H,h⟩
noncomputable def AG:LS:=
(qo (qv (pX (λa ø=>qg a) (U 3) (pG .none))
(qo (qt (qC 383 uW (L.Zx 656 0 (U 0)) (pL (U 1) (pL (U 2) pK))))
qm)
qm)
(qo (qv (pS (pX qf (U 1) (rz qN (pL (U 3) pK))) (pS (pX (qk Zt) (pI qi (U 3) (U 1)) (U 2)) pV))
(qo (qt (pI pZ (U 1) (pG (.int 1))))
qm)
qm)
(qo (qt (pJ qe (pG (.int 1))))
qm)))
noncomputable def AH:V LV->LP:=qz 4 [] 0 AG
theorem HE(h:AG [J v,J b,J ZM,J sy] s (tB KE)):AH [v,b,ZM,sy] s KE:=⟨H,h⟩
noncomputable def zJ:LS:=qo (qI (qJ (qC 169 uE (U 7) (pL (U 8) pK))) (qF 14) (qo (qr (qV qT qW (U 9) (pL (pN (pL (pJ qe (pG (.int 1))) (pL (pN (pL (U 4) (pL (qC 169 ug (U 7) (pL (U 14) (pL (pG (.int 0)) pK))) (pL (U 13) pK)))) pK))) pK))) qm)) qm
noncomputable def Ba:LS:=qo (qt (U 9)) qm
noncomputable def Bb:LS:=qo (qv (pR (pQ (qC 169 tN (U 7) (pL (U 8) pK)))) (qo (rA (qG 11 12) (L.call BH (pL (qC 656 yb (U 0) (pL (U 5) pK)) (pL (L.Zx 656 2 (U 0)) (pL (L.Zx 656 3 (U 0)) pK))))) (qo (qp 13 (pP (pQ (U 12)) (U 6) (pG (.int 0)))) (qo (qv (pX (qk Zt) (pI p9 (pI qc (U 11) (U 2)) (pG (.int 1))) (pG (.int 1))) (qo (qp 13 (pG (.int 1))) qm) qm) zJ))) qm) Ba
noncomputable def zK:LS:=qo (rA (L.t3 4 5 6) (U 1)) (qo (qp 7 (L.Zx 656 1 (U 0))) (qo (qp 8 (qC 169 uw (U 7) (pL (U 5) pK))) (qo (qv (pX qf (U 8) (pG (.int 0))) (qo (qt (pM pK)) qm) qm) (qo (qp 9 (pM pK)) (qo (qp 10 (qC 656 AH (U 0) (pL (U 4) (pL (U 8) (pL (U 3) pK))))) (qo (qv (pX L.ge (U 10) (pG (.int 0))) (qo (qr (qV qT qW (U 9) (pL (pN (pL (U 8) (pL (pN (pL (U 10) (pL (L.call BB (pL (U 7) (pL (U 5) pK))) (pL (U 6) pK)))) pK))) pK))) qm) qm) Bb))))))
noncomputable def zL:V LV->LP:=qz 4 [] 11 zK
theorem GH(h:zK [J v,J b,J ZM,J sy,sD,sD,sD,sD,sD,sD,sD,sD,sD,sD,sD] s (tB KE)):zL [v,b,ZM,sy] s KE:=⟨H,h⟩
noncomputable def zM:LS:=qo (qv (pX (ql pH) (U 12) (U 7)) (qo (qB (U 7) (U 12) (pN (pL (U 11) (pL (U 10) pK)))) (qo (qr (qV qT qW (U 8) (pL (U 12) pK))) qm)) qm) qm
noncomputable def ED:LS:=qo (qI (qJ (qC 656 zL (U 0) (pL (U 10) (pL (U 3) (pL (U 5) pK))))) (qG 11 12) zM) qm
noncomputable def Bc:LS:=qo (qp 10 (pI qi (U 8) (U 9))) (qo (qp 9 (pI pZ (U 9) (pG (.int 1)))) (qo (qv (pS (pX (qk Zt) (pI qi (U 10) (pG (.int 0))) (U 1)) (pS (pX (qk Zt) (pI qi (U 10) (pG (.int 1))) (U 2)) (pS (pU (pX (qk Zt) (pI qi (U 10) (pG (.int 2))) (pG (.int 1))) (pU (pR (pQ (U 4))) pW)) pV))) (qo (qt (qC 656 wJ (U 0) (pL (U 7) (pL (U 10) pK)))) qm) qm) ED))
noncomputable def B3:LS:=qo (qt (pG .none)) qm
noncomputable def GI:LS:=qo (qw (pX qf (U 9) (rz qN (pL (U 8) pK))) Bc) B3
noncomputable def AI:LS:=qo (qp 6 (pN (pL (pG (.int 0)) (pL (qC 169 ug (L.Zx 656 1 (U 0)) (pL (pG (.int 0)) (pL (pG (.int 0)) pK))) (pL (pG (.int 0)) pK))))) (qo (qp 7 (rj (U 6) (pG .none))) (qo (qp 8 (pM (pL (U 6) pK))) (qo (qp 9 (pG (.int 0))) GI)))
noncomputable def yc:V LV->LP:=qz 6 [] 7 AI
theorem HF(h:AI [J v,J b,J ZM,J sy,J sv,J wE,sD,sD,sD,sD,sD,sD,sD] s (tB KE)):yc [v,b,ZM,sy,sv,wE] s KE:=⟨H,h⟩
noncomputable def wZ:LS:=qo (qv (pR (pQ (pI qi (L.Zx 656 2 (U 0)) (U 10)))) (qo L.brk qm) qm) qm
noncomputable def xh:LS:=qo (qp 10 (pI qi (U 8) (U 9))) (qo (qv (pS (pX (qk Zt) (pI p9 (pI qc (pI qi (L.Zx 656 3 (U 0)) (U 10)) (U 2)) (pG (.int 1))) (pG (.int 1))) (pS (pX (ql pH) (U 10) (U 3)) pV)) (qo (qB (U 3) (U 10) (pN (pL (U 6) (pL (rz qP (pL (qj (U 8) (pI pZ (U 9) (pG (.int 1))) (pG .none)) pK)) pK)))) (qo (qr (qV qT qW (U 4) (pL (U 10) pK))) qm)) qm) wZ)
noncomputable def yl:LS:=qo (qp 8 (L.Zx 87 2 (pI qi (L.Zx 169 2 (L.Zx 656 1 (U 0))) (U 7)))) (qo (qI (qL (rz qN (pL (U 8) pK))) (qF 9) xh) qm)
noncomputable def zN:LS:=qo (qp 6 (pI qi (U 4) (U 5))) (qo (qp 5 (pI pZ (U 5) (pG (.int 1)))) (qo (qI (qJ (qC 169 uE (L.Zx 656 1 (U 0)) (pL (U 6) pK))) (qF 7) yl) qm))
noncomputable def DT:LS:=qo (rA (qG 6 12) (pI qi (U 3) (U 6))) (qo (qp 11 (pI pZ (U 11) (U 12))) qm)
noncomputable def Ak:LS:=qo (qp 11 (pN pK)) (qo (qp 6 (U 2)) (qo (qw (pX (λa ø=>qh a) (pI qi (U 3) (U 6)) (pG .none)) DT) (qo (qt (U 11)) qm)))
noncomputable def EE:LS:=qo (qw (pS (pX (ql pH) (U 2) (U 3)) (pS (pX qf (U 5) (rz qN (pL (U 4) pK))) pV)) zN) Ak
noncomputable def yK:LS:=qo (qp 3 (rj (U 1) (pG .none))) (qo (qp 4 (pM (pL (U 1) pK))) (qo (qp 5 (pG (.int 0))) EE))
noncomputable def yL:V LV->LP:=qz 3 [] 10 yK
theorem FG(h:yK [J v,J b,J ZM,sD,sD,sD,sD,sD,sD,sD,sD,sD,sD] s (tB KE)):yL [v,b,ZM] s KE:=⟨H,h⟩
noncomputable def Am:LS:=qo (qp 7 (pG (.int 0))) (qo (qw (pX (qk Zt) (pI p9 (pI qc (pI qi (L.Zx 656 3 (U 0)) (pI qi (U 5) (U 7))) (U 3)) (pG (.int 1))) (pG (.int 0))) (qo (qp 7 (pI pZ (U 7) (pG (.int 1)))) qm)) (qo (qt (pI pZ (qC 656 yL (U 0) (pL (pI qi (U 5) (U 7)) (pL (U 3) pK))) (qj (U 5) (pI pZ (U 7) (pG (.int 1))) (pG .none)))) qm))
noncomputable def EF:LS:=qo (qI (qJ (L.Zx 577 1 (U 2))) (qF 6) (qo (qp 5 (pI pZ (U 5) (U 6))) qm)) Am
noncomputable def yM:LS:=qo (qp 4 (L.Zx 656 1 (U 0))) (qo (qp 5 (rz qP (pL (qj (L.Zx 87 2 (pI qi (L.Zx 169 2 (U 4)) (qC 169 tQ (U 4) (pL (U 1) pK)))) (qC 169 uq (U 4) (pL (U 1) pK)) (pG .none)) pK))) EF)
noncomputable def wx:V LV->LP:=qz 4 [] 4 yM
theorem FH(h:yM [J v,J b,J ZM,J sy,sD,sD,sD,sD] s (tB KE)):wx [v,b,ZM,sy] s KE:=⟨H,h⟩
noncomputable def zO:LS:=
(qo (L.ZG 556 0 (U 0) (U 1))
(qo (L.ZG 556 1 (U 0) (U 2))
(qo (L.ZG 556 2 (U 0) (U 3))
(qo (L.ZG 556 3 (U 0) (U 4))
qm))))
noncomputable def zP:V LV->LP:=qz 5 [] 0 zO
theorem GJ(h:zO [J v,J b,J ZM,J sy,J sv] s (tB KE)):zP [v,b,ZM,sy,sv] s KE:=⟨H,h⟩
noncomputable def wc:LS:=
(qo (qp 6 (pP (pX (λa ø=>qg a) (U 5) (pG .none)) (U 1) (rz qN (pL (U 5) pK))))
(qo (qp 7 (qC 656 yc (U 0) (pL (U 6) (pL (U 2) (pL (U 3) (pL (U 4) (pL (U 5) pK)))))))
(qo (qv (pX (λa ø=>qg a) (U 7) (pG .none))
(qo (qt (pG .none))
qm)
qm)
(qo (qt (L.new 556 zP (pL (L.Zx 577 0 (U 7)) (pL (U 3) (pL (qC 656 wx (U 0) (pL (U 2) (pL (U 7) (pL (U 3) pK)))) (pL (U 2) pK))))))
qm))))
noncomputable def xS:V LV->LP:=qz 6 [] 2 wc
theorem EG(h:wc [J v,J b,J ZM,J sy,J sv,J wE,sD,sD] s (tB KE)):xS [v,b,ZM,sy,sv,wE] s KE:=⟨H,h⟩
noncomputable def wK:LS:=
(qo (qp 6 (pP (pX (λa ø=>qg a) (U 5) (pG .none)) (U 1) (rz qN (pL (U 5) pK))))
(qo (qp 7 (qC 656 yc (U 0) (pL (U 6) (pL (U 2) (pL (U 3) (pL (U 4) (pL (U 5) pK)))))))
(qo (qv (pX (λa ø=>qg a) (U 7) (pG .none))
(qo (qt (pG .none))
qm)
qm)
(qo (qt (L.new 556 zP (pL (L.Zx 577 0 (U 7)) (pL (U 3) (pL (qC 656 wx (U 0) (pL (U 2) (pL (U 7) (pL (U 3) pK)))) (pL (U 2) pK))))))
qm))))
noncomputable def wL:V LV->LP:=qz 5 [.none] 2 wK
theorem Dj(h:wK [J v,J b,J ZM,J sy,J sv,J (.none),sD,sD] s (tB KE)):wL [v,b,ZM,sy,sv] s KE:=⟨H,h⟩
noncomputable def EH:LS:=qo (qv (pX (λa ø=>qh a) (U 6) (pG .none)) (qo (qr (qV qT qW (U 3) (pL (U 6) pK))) qm) qm) qm
noncomputable def An:LS:=qo (qv (pX (λa ø=>qg a) (U 6) (pG .none)) (qo (qp 6 (qC 656 wL (U 1) (pL (L.Zx 746 0 (U 2)) (pL (U 4) (pL (L.Zx 746 1 (U 2)) (pL (U 5) pK)))))) qm) qm) EH
noncomputable def EI:LS:=qo (qv (pX (qk pH) (U 3) (pM pK)) (qo (qp 6 (qC 656 xS (U 1) (pL (L.Zx 746 0 (U 2)) (pL (U 4) (pL (L.Zx 746 1 (U 2)) (pL (U 5) (pL (L.Zx 556 0 (pI qi (U 3) (pG (.int 0)))) pK))))))) qm) qm) An
noncomputable def Be:LS:=qo (qp 5 (pI (qk pH) (qC 169 uw (L.Zx 696 0 (U 0)) (pL (U 4) pK)) (L.Zx 746 1 (U 2)))) (qo (qp 6 (pG .none)) EI)
noncomputable def GK:LS:=qo (qt (U 3)) qm
noncomputable def AJ:LS:=qo (qp 3 (pM pK)) (qo (qI (qJ (L.call xR (pL (U 0) (pL (U 2) pK)))) (qF 4) Be) GK)
noncomputable def AK:V LV->LP:=qz 3 [] 4 AJ
theorem HG(h:AJ [J v,J b,J ZM,sD,sD,sD,sD] s (tB KE)):AK [v,b,ZM] s KE:=⟨H,h⟩
noncomputable def yN:LS:=
(qo (qp 2 (L.new 656 AE (pL (L.Zx 696 1 (U 0)) pK)))
(qo (qt (rg (qJ (U 1)) 1 [0,2] (qF 0) pV (pN (pL (U 0) (pL (L.call AK (pL (U 1) (pL (U 2) (pL (U 0) pK)))) pK)))))
qm))
noncomputable def wy:V LV->LP:=qz 2 [] 1 yN
theorem FI(h:yN [J v,J b,sD] s (tB KE)):wy [v,b] s KE:=⟨H,h⟩
noncomputable def yO:LS:=
(qo (qt (pN (pL (L.Zx 746 0 (U 0)) (pL (L.Zx 746 1 (U 0)) (pL (L.Zx 746 2 (U 0)) (pL (L.Zx 746 3 (U 0)) (pL (L.Zx 746 4 (U 0)) pK)))))))
qm)
noncomputable def wz:V LV->LP:=qz 1 [] 0 yO
theorem FJ(h:yO [J b] s (tB KE)):wz [b] s KE:=⟨H,h⟩
noncomputable def xT:LS:=
(qo (qp 3 (U 1))
(qo (qI (qJ (U 2)) (qF 4)
(qo (qv (pX (qk Zt) (U 3) (pG (.int (-1))))
(qo (qt (pG (.int (-1))))
qm)
qm)
(qo (qp 3 (qC 383 uW (U 0) (pL (U 3) (pL (U 4) pK))))
qm)))
(qo (qt (U 3))
qm)))
noncomputable def xU:V LV->LP:=qz 3 [] 2 xT
theorem EJ(h:xT [J v,J b,J ZM,sD,sD] s (tB KE)):xU [v,b,ZM] s KE:=⟨H,h⟩
noncomputable def CJ:LS:=
(qo (rA (qG 3 4) (U 1))
(qo (qp 5 (L.Zx 87 2 (pI qi (L.Zx 169 2 (U 0)) (U 3))))
(qo (qt (pY (pI qf (U 4) (rz qN (pL (U 5) pK))) (pI (qk Zt) (pI qi (U 5) (U 4)) (U 2))))
qm)))
noncomputable def CK:V LV->LP:=qz 3 [] 3 CJ
theorem JT(h:CJ [J v,J b,J ZM,sD,sD,sD] s (tB KE)):CK [v,b,ZM] s KE:=⟨H,h⟩
noncomputable def yP:LS:=
(qo (qp 3 (L.Zx 696 0 (U 0)))
(qo (qp 4 (rg (qJ (U 2)) 1 [3] (qF 0) pV (pN (pL (qC 169 tQ (U 1) (pL (L.Zx 556 3 (U 0)) pK)) (pL (qC 169 uq (U 1) (pL (L.Zx 556 3 (U 0)) pK)) pK)))))
(qo (qp 5 (rg (qJ (L.Zx 746 3 (U 1))) 1 [3] (qF 0) pV (pN (pL (U 0) (pL (rz qN (pL (L.Zx 87 2 (pI qi (L.Zx 169 2 (U 1)) (U 0))) pK)) pK)))))
(qo (qv (pX (qk pH) (rg (qJ (U 2)) 1 [] (qF 0) pV (L.Zx 556 1 (U 0))) (pI p7 (pM (pL (L.Zx 746 1 (U 1)) pK)) (rz qN (pL (U 2) pK))))
(qo (qt (pG (.bool Zt)))
qm)
qm)
(qo (qv (pX (qk pH) (rg (qJ (U 2)) 1 [1,0] (qF 0) (pX (qk pH) (qC 383 xU (L.Zx 696 1 (U 2)) (pL (pG (.int 0)) (pL (L.Zx 556 0 (U 0)) pK))) (L.Zx 746 0 (U 1))) (U 0)) (pM pK))
(qo (qt (pG (.bool Zt)))
qm)
qm)
(qo (qp 6 (rg (qJ (U 4)) 1 [5] (qF 0) (pX (ql Zt) (U 0) (U 1)) (U 0)))
(qo (qp 7 (qj (U 4) (rz qN (pL (U 6) pK)) (pG .none)))
(qo (qv (pX (qk pH) (qj (U 4) (pG .none) (rz qN (pL (U 6) pK))) (U 6))
(qo (qt (pG (.bool Zt)))
qm)
qm)
(qo (qv (pX (qk pH) (U 6) (U 5))
(qo (qt (pG (.bool Zt)))
qm)
qm)
(qo (qv (pX (qk Zt) (L.Zx 746 2 (U 1)) (pG (.str "reduce/reduce")))
(qo (qt (pY (pI (qk Zt) (U 7) (pM pK)) (pI (qk Zt) (rz qN (pL (U 5) pK)) (pG (.int 2)))))
qm)
qm)
(qo (qt (pY (pI (qk Zt) (rz qN (pL (U 7) pK)) (pG (.int 1))) (L.call CK (pL (U 3) (pL (pI qi (U 7) (pG (.int 0))) (pL (L.Zx 746 1 (U 1)) pK))))))
qm)))))))))))
noncomputable def yQ:V LV->LP:=qz 3 [] 5 yP
theorem FK(h:yP [J v,J b,J ZM,sD,sD,sD,sD,sD] s (tB KE)):yQ [v,b,ZM] s KE:=⟨H,h⟩
noncomputable def EK:LS:=qo (qv (pS (pX (qk Zt) (pI qi (pI qi (U 0) (U 7)) (pG (.int 0))) (pI qi (U 6) (U 5))) (pS (pX (ql pH) (pN (pL (U 7) (pL (pG (.int 0)) pK))) (U 2)) pV)) (qo (qr (qV qT qW (U 2) (pL (pN (pL (U 7) (pL (pG (.int 0)) pK))) pK))) qm) qm) qm
noncomputable def CM:LS:=qo (qp 3 (pI pZ (U 3) (pG (.int 1)))) qm
noncomputable def HH:LS:=qo (qv (pX qf (U 5) (rz qN (pL (U 6) pK))) (qo (qI (qL (rz qN (pL (U 0) pK))) (qF 7) EK) qm) qm) CM
noncomputable def Dv:LS:=qo (rA (qG 4 5) (pI qi (U 2) (U 3))) (qo (qp 6 (pI qi (pI qi (U 0) (U 4)) (pG (.int 1)))) HH)
noncomputable def JU:LS:=qo (qw (pX qf (U 3) (rz qN (pL (U 2) pK))) Dv) (qo (qt (U 2)) qm)
noncomputable def DU:LS:=qo (qp 2 (rz qO (pL (U 1) pK))) (qo (qp 3 (pG (.int 0))) JU)
noncomputable def BJ:V LV->LP:=qz 2 [] 6 DU
theorem Lh(h:DU [J v,J b,sD,sD,sD,sD,sD,sD] s (tB KE)):BJ [v,b] s KE:=⟨H,h⟩
noncomputable def GL:LS:=qo (qv (pX (qk Zt) (qj (pI qi (pI qi (U 0) (U 5)) (pG (.int 1))) (U 6) (pI pZ (U 6) (pG (.int 1)))) (pM (pL (U 3) pK))) (qo (qr (qV qT qW (U 4) (pL (pN (pL (U 5) (pL (pI pZ (U 6) (pG (.int 1))) pK))) pK))) qm) qm) qm
noncomputable def HI:LS:=qo (qp 2 (L.call BJ (pL (U 0) (pL (U 4) pK)))) qm
noncomputable def Dw:LS:=qo (qp 4 (pM pK)) (qo (qI (qJ (U 2)) (qG 5 6) GL) HI)
noncomputable def JV:LS:=qo (qt (U 2)) qm
noncomputable def JW:LS:=qo (qI (qJ (U 1)) (qF 3) Dw) JV
noncomputable def DV:LS:=qo (qp 2 (L.call BJ (pL (U 0) (pL (pM (pL (pN (pL (pG (.int 0)) (pL (pG (.int 0)) pK))) pK)) pK)))) JW
noncomputable def DW:V LV->LP:=qz 2 [] 5 DV
theorem Li(h:DV [J v,J b,sD,sD,sD,sD,sD] s (tB KE)):DW [v,b] s KE:=⟨H,h⟩
noncomputable def xv:LS:=qo (qr (qV qT qX (U 9) (pL (rg (qJ (U 11)) 1 [ 9 ] (qF 0) (pX (ql pH) (U 0) (U 1)) (U 0)) pK))) qm
noncomputable def Ce:LS:=qo (qv (pS (pX qf (U 10) (rz qN (pL (U 1) pK))) (pS (pX (qk Zt) (pI qi (U 1) (U 10)) (U 8)) pV)) (qo (qr (qV qT qW (U 11) (pL (pI pZ (U 10) (pG (.int 1))) pK))) qm) qm) xv
noncomputable def ym:LS:=qo (qp 11 (rz qO (pL (qV qU qZ (U 2) (pL (pN (pL (U 8) (pL (U 10) pK))) (pL (pM pK) pK))) pK))) Ce
noncomputable def Dk:LS:=qo (qp 7 (U 9)) qm
noncomputable def wM:LS:=qo (qp 9 (pM pK)) (qo (qI (qJ (U 7)) (qF 10) ym) Dk)
noncomputable def zQ:LS:=qo (qv (pX (ql pH) (U 13) (U 12)) (qo (qr (qV qT qW (U 12) (pL (U 13) pK))) (qo (qp 4 (pG (.bool pH))) qm)) qm) qm
noncomputable def EL:LS:=qo (qI (qJ (U 7)) (qF 13) zQ) qm
noncomputable def EM:LS:=qo (qp 12 (qV qU q8 (U 2) (pL (pN (pL (U 5) (pL (U 3) pK))) (pL (pM pK) pK)))) EL
noncomputable def Bf:LS:=qo (qp 7 (pM (pL (U 3) pK))) (qo (qI (qJ (U 6)) (qF 8) wM) EM)
noncomputable def CN:LS:=qo (qp 4 (pG (.bool Zt))) (qo (qI (qJ (U 0)) (qG 5 6) Bf) qm)
noncomputable def Iy:LS:=qo (qw (pQ (U 4)) CN) qm
noncomputable def Lj:LS:=qo (qt (U 2)) qm
noncomputable def Lk:LS:=qo (qI (L.æ (rz qN (pL (U 1) pK)) (pJ qe (pG (.int 1))) (pJ qe (pG (.int 1)))) (qF 3) (qo (qp 4 (pG (.bool pH))) Iy)) Lj
noncomputable def FL:LS:=qo (qp 2 pO) Lk
noncomputable def FN:V LV->LP:=qz 2 [] 12 FL
theorem MS(h:FL [J v,J b,sD,sD,sD,sD,sD,sD,sD,sD,sD,sD,sD,sD] s (tB KE)):FN [v,b] s KE:=⟨H,h⟩
noncomputable def BK:LS:=
(qo (qv (pX (qk Zt) (U 2) (pM (pL (U 1) pK)))
(qo (qt (pG (.bool pH)))
qm)
qm)
(qo (qt (pI (ql Zt) (rz qN (pL (U 2) pK)) (pI qi (L.call FN (pL (U 0) (pL (U 2) pK))) (pN (pL (U 1) (pL (pG (.int 0)) pK))))))
qm))
noncomputable def ze:V LV->LP:=qz 3 [] 0 BK
theorem Iz(h:BK [J v,J b,J ZM] s (tB KE)):ze [v,b,ZM] s KE:=⟨H,h⟩
noncomputable def zR:LS:=
(qo (qp 2 (pN pK))
(qo (qI (qJ (U 0)) (qF 3)
(qo (qv (pX (λa ø=>qg a) (pI qi (U 1) (U 3)) (pG .none))
(qo (qt (pG .none))
qm)
qm)
(qo (qp 2 (pI pZ (U 2) (pI qi (U 1) (U 3))))
qm)))
(qo (qt (U 2))
qm)))
noncomputable def zS:V LV->LP:=qz 2 [] 2 zR
theorem GN(h:zR [J v,J b,sD,sD] s (tB KE)):zS [v,b] s KE:=⟨H,h⟩
noncomputable def yn:LS:=qo (qB (U 1) (L.Zx 87 1 (U 4)) (U 5)) (qo (qp 3 (pG (.bool pH))) qm)
noncomputable def zT:LS:=qo (qp 5 (L.call zS (pL (L.Zx 87 2 (U 4)) (pL (U 1) pK)))) (qo (qv (pS (pX (λa ø=>qh a) (U 5) (pG .none)) (pS (pU (pX (λa ø=>qg a) (pI qi (U 1) (L.Zx 87 1 (U 4))) (pG .none)) (pU (pX qf (rz qN (pL (U 5) pK)) (rz qN (pL (pI qi (U 1) (L.Zx 87 1 (U 4))) pK))) pW)) pV)) yn qm) qm)
noncomputable def Bg:LS:=qo (qp 3 (pG (.bool Zt))) (qo (qI (qJ (L.Zx 169 2 (U 0))) (qF 4) zT) qm)
noncomputable def AL:LS:=qo (qp 1 (pM pK)) (qo (qI (qL (qC 169 t7 (U 0) pK)) (qF 2) (qo (qr (qV qT qW (U 1) (pL (pP (pS (pQ (qC 169 tN (U 0) (pL (U 2) pK))) (pS (pX (qk pH) (U 2) (pG (.int 1))) pV)) (pN (pL (U 2) pK)) (pG .none)) pK))) qm)) (qo (qp 3 (pG (.bool pH))) (qo (qw (pQ (U 3)) Bg) (qo (qt (U 1)) qm))))
noncomputable def AM:V LV->LP:=qz 1 [] 5 AL
theorem HJ(h:AL [J b,sD,sD,sD,sD,sD] s (tB KE)):AM [b] s KE:=⟨H,h⟩
noncomputable def wN:LS:=
(qo (qp 2 (L.call AM (pL (U 1) pK)))
(qo (qp 3 (pN pK))
(qo (qI (qJ (pI pZ (pI pZ (L.Zx 556 0 (U 0)) (pN (pL (L.Zx 556 1 (U 0)) pK))) (L.Zx 556 2 (U 0)))) (qF 4)
(qo (qv (pX (qk Zt) (U 4) (pG (.int 0)))
(qo qu
qm)
qm)
(qo (qv (pX (λa ø=>qg a) (pI qi (U 2) (U 4)) (pG .none))
(qo (qt (pG .none))
qm)
qm)
(qo (qp 3 (pI pZ (U 3) (pI qi (U 2) (U 4))))
qm))))
(qo (qt (U 3))
qm))))
noncomputable def wO:V LV->LP:=qz 2 [] 3 wN
theorem Dl(h:wN [J v,J b,sD,sD,sD] s (tB KE)):wO [v,b] s KE:=⟨H,h⟩
noncomputable def yo:LS:=qo (qv (pR (pQ (L.call ze (pL (U 1) (pL (pG (.str "$accept")) (pL (U 11) pK)))))) (qo (qt (pG (.bool Zt))) qm) qm) (qo (qp 13 (qC 556 wO (U 3) (pL (U 0) pK))) (qo (qv (pU (pR (L.isTup (U 13))) (pU (pX (qk pH) (rg (qJ (U 13)) 1 [ 0 ] (qF 0) (pR (rB (pG (.int 2)) (U 0) (L.Zx 169 1 (U 1)))) (U 0)) (pM pK)) pW)) (qo (qt (pG (.bool Zt))) qm) qm) (qo (qt (L.call ze (pL (U 1) (pL (pG (.str "s")) (pL (rg (qJ (U 13)) 1 [ 0 ] (qF 0) pV (pI qi (L.Zx 169 0 (U 1)) (U 0))) pK))))) qm)))
noncomputable def yY:LS:=qo (qv (pX (qk Zt) (U 5) (rz qN (pL (U 7) pK))) (qo (qp 11 (pI pZ (U 11) (U 9))) qm) (qo (qp 12 (qj (U 7) (pI pZ (U 5) (pG (.int 1))) (pG .none))) (qo (qv (pU (pX (qk pH) (pI qi (U 9) (pG (.int 0))) (pI qi (U 7) (U 5))) (pU (pX (qk pH) (qj (U 9) (pG (.int 1)) (pI pZ (pG (.int 1)) (rz qN (pL (U 12) pK)))) (U 12)) pW)) (qo (qt (pG (.bool Zt))) qm) qm) (qo (qp 11 (pI pZ (U 11) (qj (U 9) (pI pZ (pG (.int 1)) (rz qN (pL (U 12) pK))) (pG .none)))) qm)))) yo
noncomputable def yZ:LS:=qo (qv (pU (pX L.gt (U 5) (rz qN (pL (U 8) pK))) (pU (pX (qk pH) (qj (U 8) (pI p6 (rz qN (pL (U 8) pK)) (U 5)) (pG .none)) (qj (U 7) (pG .none) (U 5))) pW)) (qo (qt (pG (.bool Zt))) qm) qm) (qo (qp 11 (pI pZ (qj (U 8) (pG .none) (pI p6 (rz qN (pL (U 8) pK)) (U 5))) (pM (pL (U 6) pK)))) yY)
noncomputable def y1:LS:=qo (qv (pX (ql pH) (pN (pL (U 4) (pL (U 5) pK))) (U 10)) (qo (qt (pG (.bool Zt))) qm) qm) (qo (qv (pX (qk pH) (rg (qJ (L.Zx 746 3 (U 2))) 1 [ 10 ,1 ] (qF 0) (pX (ql pH) (pN (pL (U 0) (pL (rz qN (pL (pI qi (pI qi (U 2) (U 0)) (pG (.int 1))) pK)) pK))) (U 1)) (U 0)) (pM pK)) (qo (qt (pG (.bool Zt))) qm) qm) yZ)
noncomputable def xi:LS:=qo (rA (L.Ě 4 5) (pN (pL (qC 169 tQ (U 0) (pL (L.Zx 556 3 (U 3)) pK)) (pL (qC 169 uq (U 0) (pL (L.Zx 556 3 (U 3)) pK)) pK)))) (qo (rA (qG 6 7) (pI qi (U 1) (U 4))) (qo (qp 8 (rg (qJ (L.Zx 556 0 (U 3))) 1 [ 0 ] (qF 0) pV (pI qi (L.Zx 169 0 (U 1)) (U 0)))) (qo (qp 9 (rg (qJ (pI pZ (pN (pL (L.Zx 556 1 (U 3)) pK)) (L.Zx 556 2 (U 3)))) 1 [ 0 ] (qF 0) pV (pI qi (L.Zx 169 0 (U 1)) (U 0)))) (qo (qp 10 (L.call DW (pL (U 1) (pL (U 8) pK)))) y1))))
noncomputable def xj:V LV->LP:=qz 4 [] 10 xi
theorem DX(h:xi [J v,J b,J ZM,J sy,sD,sD,sD,sD,sD,sD,sD,sD,sD,sD] s (tB KE)):xj [v,b,ZM,sy] s KE:=⟨H,h⟩
noncomputable def OU:LS:=qo (qv (pR (pQ (L.call yQ (pL (U 4) (pL (U 10) (pL (U 11) pK)))))) (qo (qt (pG (.bool Zt))) qm) qm) qm
noncomputable def OV:LS:=qo (qv (pR (pQ (L.call xj (pL (U 3) (pL (U 5) (pL (pI qi (U 8) (pG (.int 0))) (pL (U 12) pK))))))) (qo (qt (pG (.bool Zt))) qm) qm) qm
noncomputable def Ll:LS:=qo (qI (qJ (pI qi (pI qi (U 9) (pG (.int 0))) (pG (.int 1)))) (qF 12) OV) (qo (qt (pG (.bool pH))) qm)
noncomputable def Lm:LS:=qo (qI (qJ (U 9)) (qG 10 11) OU) Ll
noncomputable def NL:LS:=qo (qp 9 (L.call wy (pL (U 4) (pL (U 8) pK)))) (qo (qv (pX (qk pH) (rg (qJ (U 9)) 2 [ ] (qG 0 1) pV (qC 746 wz (U 0) pK)) (rg (qJ (U 8)) 1 [ ] (qF 0) pV (qC 746 wz (U 0) pK))) (qo (qt (pG (.bool Zt))) qm) qm) Lm)
noncomputable def NM:LS:=qo (qp 7 (pI p8 (L.call u9 (pL (U 1) (pL (pG (.int 4)) pK))) (rz qN (pL (U 6) pK)))) (qo (qp 8 (pI pZ (pM (pL (pI qi (U 6) (U 7)) pK)) (qj (qj (U 6) (pG .none) (U 7)) (pG .none) (pG (.int 1))))) NL)
noncomputable def NN:LS:=qo (qv (pX (qk Zt) (U 6) (pM pK)) (qo (qt (pI (qk Zt) (L.call wy (pL (U 4) (pL (pM pK) pK))) (pM pK))) qm) qm) NM
noncomputable def P7:LS:=qo (qp 1 (L.call Hq (pL (U 0) pK))) (qo (qp 2 (L.call DH (pL (U 1) pK))) (qo (qp 3 (L.call xb (pL (rg (qJ (U 2)) 2 [ ] (qG 0 1) pV (pN (pL (U 0) (pL (rz qO (pL (U 1) pK)) pK)))) pK))) (qo (qp 4 (L.call CG (pL (U 3) pK))) (qo (qp 5 (pI pZ (pM (pL (pN (pL (pG (.str "$accept")) (pL (pM (pL (pG (.str "s")) (pL (pG (.str "$end")) pK))) pK))) pK)) (U 2))) (qo (qp 6 (L.call zG (pL (U 4) pK))) NN)))))
noncomputable def NO:V LV->LP:=qz 1 [] 12 P7
theorem Ve(h:P7 [J b,sD,sD,sD,sD,sD,sD,sD,sD,sD,sD,sD,sD] s (tB KE)):NO [b] s KE:=⟨H,h⟩
structure zU where
 own:sE
 nm:ap
 kd:M
 ae:sE
 st:Stmt
 bh:sR
 na:M
 UV:V LV
 ls:V ap
 aP:LS
variable {g9:V zU}
noncomputable def zU.ba(x:zU):V ap:=(BA x.st).args.map (·.arg)
noncomputable def zU.bu(x:zU):V LV->LP:=qz x.na x.UV (R x.ls) x.aP
noncomputable def Ws:V (sE×V ap):=[
 (87,["number","left","right","level_of","action","line","before"]),
 (169,["names","terminal_count","rules","levels","expect","start","by_left","offsets","owners","item_count"]),
 (264,["number","kernel","symbol","items","moves","reductions"]),
 (306,["grammar","firsts"]),
 (383,["grammar","states"]),
 (425,["grammar","closer","states","numbers"]),
 (500,["automaton","nullables","transitions","index","direct","reads","includes","turns","lookback","read_masks","follow_masks","masks"]),
 (556,["prefix","terminal","suffix","item"]),
 (577,["symbols","rests"]),
 (656,["automaton","grammar","nullables","firsts"]),
 (696,["grammar","automaton","cores","masks"]),
 (746,["state","terminal","way","rules","chosen"])]
noncomputable def KJ(c:sE):V ap:=(Ws.lookup c).getD []
noncomputable def Zf:V (ap×sE):=[("automaton",383),("conflict",746),("finder",656),("grammar",169),("one",556),("path",577),("rule",87),("rules",87),("state",264),("states",264),("view",696),("closer",306),("found",556),("Builder",425),("Lookaheads",500)]
noncomputable def JX:V (ap×al×M):=[("END",0,262),("NONE",-1,515),("ERROR",1,264)]
noncomputable def Vf:V ap:=["abs","range","list","len","tuple","sorted","max","reversed","isinstance"]
noncomputable def Vg:V ap:=["$end","error","$undefined"]
structure CC where
 nm:V ap
 sc:ye
 self:sE
variable {g5:CC}
noncomputable def CC.aD(c:CC)(x:ap):bn:=c.sc.names.lookup x==J .globalImplicit&&!(x==("__debug__" : ap))
noncomputable def D8:V ap->ap->M
 | [],_=>0
 | y::r,x=>cond (y==x) 0 (D8 r x+1)
theorem xV:∀{l:V ap} {x:ap},l.contains x=pH->(l.map J)[D8 l x]?=J (J x)
 | y::r,x,h=>by
  refine(?_:(J y::r.map J)[cond (y==x) 0 (D8 r x+1)]?=_);cases q:y==x with
  | true=>cases eq_of_beq q;rfl
  | false=>
   refine xV (l:=r) ?_;rw[List.contains_cons,jo]at h
   rcases h with h | h
   .rw[eq_of_beq h,tJ]at q;exact tf q
   .exact h
theorem a1{y:bn}(h:(mf&&y)=pH):mf=pH:=(iL.mp h).1
theorem a2(h:(mf&&sr)=pH):sr=pH:=(iL.mp h).2
theorem NP{α:Sort _}{u v:α}{Q:α->Prop}(h:cond mf sr cM=pH)(h1:mf=pH->sr=pH->Q u)(h2:mf=Zt->cM=pH->Q v):Q (cond mf u v):=by
 cases mf
 .exact h2 H h
 .exact h1 H h
set_option genInjectivity false in
inductive db where
 | name (x:ap) (p:Pos)
 | attr (o:bm) (x:ap) (p:Pos)
 | sub (o i:bm) (p:Pos)
 | call (f:bm) (as:V bm) (p:Pos)
 | tup (es:V bm) (k:M) (p:Pos)
 | lc (e:bm) (gs:V t4) (sc:ye) (p:Pos)
 | slice (lo hi:sF bm) (p:Pos)
 | const (v:Const) (k:M) (p:Pos)
 | un (op:UnaryOp) (e:bm) (p:Pos)
 | bin (op:Ed) (a b:bm) (p:Pos)
 | bool (op:BoolOp) (es:V bm) (p:Pos)
 | cmp (a:bm) (ops:V A0) (bs:V bm) (p:Pos)
 | ife (t a b:bm) (p:Pos)
 | list (es:V bm) (p:Pos)
 | dict (ks:V (sF bm)) (vs:V bm) (p:Pos)
 | other
noncomputable def db.ex(v:db):bm:=v.casesOn .Name .Attribute .Subscript (λf as p=>.Call f as [] p) .Tuple .ListComp (λlo hi p=>.Slice lo hi sD p) .Constant .UnaryOp (λop a b p=>.BinOp a op b p) .BoolOp .Compare .IfExp .List .Dict (.Name "" ⟨0,0,0,0⟩)
noncomputable def vw(e:bm):db:=e.casesOn .bool (λø ø ø=>.other) (λa op b p=>.bin op a b p) .un (λø ø ø ø=>.other) .ife .dict (λø ø ø=>.other) .lc (λø ø ø ø=>.other) (λø ø ø ø ø=>.other) (λø ø ø ø=>.other) (λø ø=>.other) (λø ø=>.other) (λø ø=>.other)
 .cmp (λf as kw p=>kw.casesOn (.call f as p) λø ø=>.other) (λø ø ø ø=>.other) (λø ø=>.other) .const .attr .sub (λø ø=>.other) .name .list .tup (λlo hi st p=>st.casesOn (.slice lo hi p) λø=>.other)
theorem Us(e:bm):vw e=.other\/e=(vw e).ex:=by
 cases e with
 | Call f as kw p=>cases kw<;>first | exact .inr H | exact .inl H
 | Slice lo hi st p=>cases st<;>first | exact .inr H | exact .inl H
 | _=>first | exact .inr H | exact .inl H
noncomputable def db.ah(v:db):M:=v.casesOn (λø ø=>1) (λø ø ø=>2) (λø ø ø=>3) (λø ø ø=>4) (λø ø ø=>5) (λø ø ø ø=>6) (λø ø ø=>7) (λø ø ø=>8) (λø ø ø=>0) (λø ø ø ø=>0) (λø ø ø=>0) (λø ø ø ø=>0) (λø ø ø ø=>0) (λø ø=>0) (λø ø ø=>0) 9
noncomputable def e0:bm:=.Name "" ⟨0,0,0,0⟩
noncomputable def db.o1(v:db):sF bm:=v.casesOn (λø ø=>sD) (λø ø ø=>sD) (λø i ø=>J i) (λø ø ø=>sD) (λø ø ø=>sD) (λø ø ø ø=>sD) (λlo ø ø=>lo) (λø ø ø=>sD) (λø ø ø=>sD) (λø ø ø ø=>sD) (λø ø ø=>sD) (λø ø ø ø=>sD) (λø ø ø ø=>sD) (λø ø=>sD) (λø ø ø=>sD) sD
noncomputable def db.o2(v:db):sF bm:=v.casesOn (λø ø=>sD) (λø ø ø=>sD) (λø ø ø=>sD) (λø ø ø=>sD) (λø ø ø=>sD) (λø ø ø ø=>sD) (λø hi ø=>hi) (λø ø ø=>sD) (λø ø ø=>sD) (λø ø ø ø=>sD) (λø ø ø=>sD) (λø ø ø ø=>sD) (λø ø ø ø=>sD) (λø ø=>sD) (λø ø ø=>sD) sD
noncomputable def db.nm(v:db):ap:=v.casesOn (λx ø=>x) (λø x ø=>x) (λø ø ø=>"") (λø ø ø=>"") (λø ø ø=>"") (λø ø ø ø=>"") (λø ø ø=>"") (λø ø ø=>"") (λø ø ø=>"") (λø ø ø ø=>"") (λø ø ø=>"") (λø ø ø ø=>"") (λø ø ø ø=>"") (λø ø=>"") (λø ø ø=>"") ""
noncomputable def db.ag(v:db):Pos:=v.casesOn (λø p=>p) (λø ø p=>p) (λø ø p=>p) (λø ø p=>p) (λø ø p=>p) (λø ø ø p=>p) (λø ø p=>p) (λø ø p=>p) (λø ø p=>p) (λø ø ø p=>p) (λø ø p=>p) (λø ø ø p=>p) (λø ø ø p=>p) (λø p=>p) (λø ø p=>p) ⟨0,0,0,0⟩
noncomputable def db.ar(v:db):bm:=v.casesOn (λø ø=>e0) (λo ø ø=>o) (λo ø ø=>o) (λf ø ø=>f) (λø ø ø=>e0) (λø ø ø ø=>e0) (λø ø ø=>e0) (λø ø ø=>e0) (λø ø ø=>e0) (λø ø ø ø=>e0) (λø ø ø=>e0) (λø ø ø ø=>e0) (λø ø ø ø=>e0) (λø ø=>e0) (λø ø ø=>e0) e0
noncomputable def db.aS(v:db):V bm:=v.casesOn (λø ø=>[]) (λø ø ø=>[]) (λø ø ø=>[]) (λø as ø=>as) (λes ø ø=>es) (λø ø ø ø=>[]) (λø ø ø=>[]) (λø ø ø=>[]) (λø ø ø=>[]) (λø ø ø ø=>[]) (λø ø ø=>[]) (λø ø ø ø=>[]) (λø ø ø ø=>[]) (λø ø=>[]) (λø ø ø=>[]) []
noncomputable def db.cst(v:db):bn:=v.casesOn (λø ø=>Zt) (λø ø ø=>Zt) (λø ø ø=>Zt) (λø ø ø=>Zt) (λø ø ø=>Zt) (λø ø ø ø=>Zt) (λø ø ø=>Zt) (λc ø ø=>c==.none) (λø ø ø=>Zt) (λø ø ø ø=>Zt) (λø ø ø=>Zt) (λø ø ø ø=>Zt) (λø ø ø ø=>Zt) (λø ø=>Zt) (λø ø ø=>Zt) Zt
theorem Lo(h:((vw ea).ah==i)=pH)(hn:i≠9):ea=(vw ea).ex/\(vw ea).ah=i:=by
 have h:=eq_of_beq h
 rcases Us ea with q | q
 .rw[q]at h;exact absurd h.symm hn
 .exact⟨q,h⟩
theorem xW{e:bm}(h:((vw e).ah==1)=pH):e=.Name (vw e).nm (vw e).ag:=by
 refine xA (Lo h (by decide)) λq h=>?_
 generalize vw e=v at q h
 cases v<;>first
  | exact q
  | exact absurd h (jJ rfl)
theorem P8(h:((vw ea).ah==2)=pH):ea=.Attribute (vw ea).ar (vw ea).nm (vw ea).ag:=by
 refine xA (Lo h (by decide)) λq h=>?_
 generalize vw ea=v at q h
 cases v<;>first
  | exact q
  | exact absurd h (jJ rfl)
theorem P9(h:((vw ea).ah==4)=pH):ea=.Call (vw ea).ar (vw ea).aS [] (vw ea).ag:=by
 refine xA (Lo h (by decide)) λq h=>?_
 generalize vw ea=v at q h
 cases v<;>first
  | exact q
  | exact absurd h (jJ rfl)
theorem isTup(h:((vw ea).ah==5)=pH):∃k,ea=.Tuple (vw ea).aS k (vw ea).ag:=by
 refine xA (Lo h (by decide)) λq h=>?_
 generalize vw ea=v at q h
 cases v<;>first
  | exact⟨_,q⟩
  | exact absurd h (jJ rfl)
theorem Yi(h:((vw ea).ah==7)=pH):ea=.Slice (vw ea).o1 (vw ea).o2 sD (vw ea).ag:=by
 refine xA (Lo h (by decide)) λq h=>?_
 generalize vw ea=v at q h
 cases v<;>first
  | exact q
  | exact absurd h (jJ rfl)
theorem Vh(h:((vw ea).ah==8&&(vw ea).cst)=pH):∃k,ea=.Constant .none k (vw ea).ag:=by
 refine xA (Lo (a1 h) (by decide)) λq h1=>?_
 have h2:=a2 h;generalize vw ea=v at q h1 h2
 cases v<;>first
  | exact absurd h1 (jJ rfl)
  | exact⟨_,q.trans (sJ (λv=>Expr.Constant v _ _) (eq_of_beq h2))⟩
noncomputable def Ut(e:bm):ap:=(vw e).nm
noncomputable def Vi(self:sE)(e:bm):sE:=
 (λx:ap=>cond (x=="self") self ((Zf.lookup x).getD 0)) (cond ((vw e).ah==3||(vw e).ah==4) (vw (vw e).ar).nm (vw e).nm)
noncomputable def MT(e:bm):bn:=(vw e).ah==1||(vw e).ah==2||(vw e).ah==3||(vw e).ah==4&&(vw (vw e).ar).ah==1&&!(vw e).aS.isEmpty
noncomputable def Yj(e:bm):bn:=wo.match_5 (λø=>bn) e (λø ø=>pH) λø=>Zt
noncomputable abbrev vk(e:bm):Prop:=(∀env r,sZ (e::r) env=(Zt,eval e env)::sZ r env)/\(∀env x,uM e env x=pure x)/\(∀op,Dq op e=Zt)/\(∀o i,subscripted e Zt o i=operate [o,i] (lQ o i))/\((vw e).ah≠6->∀t l env,vO e t l env=pure Zt)/\(∀o x p l env,vO e (J (.Attribute o x p)) l env=pure Zt)/\(∀o i p l env,vO e (J (.Subscript o i p)) l env=pure Zt)/\(MT e=pH->∀x env,Au e x env (eval e env)=eval e env)/\Yj e=Zt/\((vw e).ah≠5->∀ts k p env,wo [.Tuple ts k p] e env=pure sD)
def vk.star(h:vk ea):=h.1
def vk.fold(h:vk ea):=h.2.1
def vk.mark(h:vk ea):=h.2.2.1
def vk.sub(h:vk ea):=h.2.2.2.1
def vk.swap(h:vk ea):=h.2.2.2.2.1
def vk.X!(h:vk ea):=h.2.2.2.2.2.1
def vk.W_(h:vk ea):=h.2.2.2.2.2.2.1
def vk.base(h:vk ea):=h.2.2.2.2.2.2.2.1
def vk.ns(h:vk ea):=h.2.2.2.2.2.2.2.2.1
def vk.two(h:vk ea):=h.2.2.2.2.2.2.2.2.2
theorem Sp{v:db}(h:v.ah≠7)(h':v.ah≠9):vk v.ex:=by
 cases v with
 | call f as p=>
  refine⟨λø ø=>rfl,λø ø=>rfl,λø=>rfl,λø ø=>rfl,λø ø ø ø=>rfl,λø ø ø ø ø=>rfl,λø ø ø ø ø=>rfl,λh ø ø=>?_,H,λø ø ø ø ø=>rfl⟩;cases as with
  | nil=>exact absurd (a2 h) iw
  | cons a r=>
   exact D (show f=_ from (xW (a2 (a1 (show(_&&_)=pH from h))))) H
 | _=>first
  | exact absurd rfl h
  | exact absurd rfl h'
  | exact⟨λø ø=>rfl,λø ø=>rfl,λø=>rfl,λø ø=>rfl,λø ø ø ø=>rfl,λø ø ø ø ø=>rfl,λø ø ø ø ø=>rfl,λø ø ø=>rfl,rfl,λø ø ø ø ø=>rfl⟩
  | exact⟨λø ø=>rfl,λø ø=>rfl,λø=>rfl,λø ø=>rfl,λø ø ø ø=>rfl,λø ø ø ø ø=>rfl,λø ø ø ø ø=>rfl,λh=>lh h,rfl,λø ø ø ø ø=>rfl⟩
  | exact⟨λø ø=>rfl,λø ø=>rfl,λø=>rfl,λø ø=>rfl,λh=>absurd rfl h,λø ø ø ø ø=>rfl,λø ø ø ø ø=>rfl,λh=>lh h,rfl,λø ø ø ø ø=>rfl⟩
  | exact⟨λø ø=>rfl,λø ø=>rfl,λø=>rfl,λø ø=>rfl,λø ø ø ø=>rfl,λø ø ø ø ø=>rfl,λø ø ø ø ø=>rfl,λh=>lh h,rfl,λh=>absurd rfl h⟩
structure Fn where
 ak:CC->bm->LE
 aP:CC->bm->LB
 ai:CC->bm->bn
 az:CC->bm->bn
variable {g7:Fn}
noncomputable def WR(op:Ed):LV->LV->LP:=op.casesOn pZ p6 p7 pZ pZ p8 pZ qb qc qa pZ p9 L.fdiv
noncomputable def WS(op:Ed):bn:=op.casesOn pH pH pH Zt Zt pH Zt pH pH pH Zt pH pH
noncomputable def Vj(op:A0):LV->LV->LP:=op.casesOn (qk Zt) (qk pH) qf qf L.gt L.ge qf qf (ql Zt) (ql pH)
noncomputable def Vk(op:A0):bn:=op.casesOn pH pH pH Zt pH pH Zt Zt pH pH
noncomputable def Qa(v:Const):LV:=v.casesOn .none ii f0 (λø=>.none) (λø ø=>.none) g3 (λø=>.none) .none
noncomputable def Qb(v:Const):bn:=v.casesOn pH (λø=>pH) (λø=>pH) (λø=>Zt) (λø ø=>Zt) (λø=>pH) (λø=>Zt) Zt
noncomputable def Uu(c:CC)(x:ap):LE:=cond (c.nm.contains x) (U (D8 c.nm x)) (pG (cond (JX.lookup x).isSome (f0 ((JX.lookup x).getD (0,0)).1) (f2 (Vg.map g3))))
noncomputable def Uv(c:CC)(x:ap):bn:=cond (c.nm.contains x) pH (c.aD x&&cond (JX.lookup x).isSome pH (x=="OWN_TERMINALS"))
noncomputable def RY(am:bm->LE):V bm->Mr
 | []=>pK
 | e::r=>pL (am e) (RY am r)
noncomputable def XS(c:sE)(x:ap):M:=(vC (KJ c) x).getD 0
noncomputable def Yk(c:sE)(x:ap):bn:=(vC (KJ c) x).isSome
noncomputable def Qc(am:bm->LE)(o:sF bm):LE:=o.casesOn (pG .none) am
noncomputable def Qd(e:bm->bn)(o:sF bm):bn:=o.casesOn pH e
noncomputable def WT(F:Fn)(c:CC)(o i:bm):LE:=cond ((vw i).ah==7) (qj (F.ak c o) (Qc (F.ak c) (vw i).o1) (Qc (F.ak c) (vw i).o2)) (pI qi (F.ak c o) (F.ak c i))
noncomputable def WU(F:Fn)(c:CC)(o i:bm):bn:=F.ai c o&&cond ((vw i).ah==7) (Qd (F.ai c) (vw i).o1&&Qd (F.ai c) (vw i).o2) (F.ai c i)
noncomputable def Sr:V (ap×sR×(V LV->LP)):=[("len",.builtin "len",qN),("list",.type "list",qO),("tuple",.type "tuple",qP),("sorted",.builtin "sorted",qS),("abs",.builtin "abs",L.ã),("max",.builtin "max",L.maxOf)]
noncomputable def h0(l:V bm):bm:=l.headD e0
noncomputable def h1(l:V bm):bm:=l.tail.headD e0
noncomputable def h2(l:V bm):bm:=l.tail.tail.headD e0
noncomputable def Vl(x:ap)(as:V bm):bn:=x=="tuple"&&R as==1&&(vw (h0 as)).ah==4&&(vw (vw (h0 as)).ar).ah==1&&(vw (vw (h0 as)).ar).nm=="reversed"&&R (vw (h0 as)).aS==1
noncomputable def Lp:zU:=⟨0,"",9,0,default,.none,0,[],[],qm⟩
noncomputable def Vm(as:V bm)(x:ap)(e:zU):bn:=Nat.blt e.kd 2&&e.nm==x&&e.na==R as+e.kd
noncomputable def Ss(c:CC)(o:bm)(as:V bm)(x:ap)(e:zU):bn:=e.kd==2&&e.nm==x&&e.own==Vi c.self o&&e.na==R as+1
noncomputable def Vn(e:zU)(m:Mr):LE:=cond (e.kd==1) (L.new e.own e.bu m) (L.call e.bu m)
noncomputable def callN(T:V zU)(F:Fn)(c:CC)(x:ap)(as:V bm):LE:=cond (Vl x as) (L.å (F.ak c (h0 (vw (h0 as)).aS))) (cond (Sr.lookup x).isSome (rz ((Sr.lookup x).getD (.none,qN)).2 (RY (F.ak c) as)) (Vn ((T.find? (Vm as x)).getD Lp) (RY (F.ak c) as)))
noncomputable def Uw(T:V zU)(F:Fn)(c:CC)(x:ap)(as:V bm):bn:=c.aD x&&cond (Vl x as) (c.aD "reversed"&&F.ai c (h0 (vw (h0 as)).aS)) (as.all (F.ai c)&&cond (Sr.lookup x).isSome (!as.isEmpty) (T.find? (Vm as x)).isSome)
noncomputable def WV:V (ap×(LH->LV->Prop)×(V LV->LP)):=[("append",qT,qW),("extend",qT,qX),("pop",qT,L.pop),("index",qT,qY),("get",qU,qZ),("setdefault",qU,q8)]
noncomputable def Ux(T:V zU)(F:Fn)(c:CC)(o:bm)(x:ap)(as:V bm):LE:=cond (WV.lookup x).isSome (qV ((WV.lookup x).getD (qT,qN)).1 ((WV.lookup x).getD (qT,qN)).2 (F.ak c o) (RY (F.ak c) as))
 ((λe:zU=>qC e.own e.bu (F.ak c o) (RY (F.ak c) as)) ((T.find? (Ss c o as x)).getD Lp))
noncomputable def Uy(T:V zU)(F:Fn)(c:CC)(o:bm)(x:ap)(p pos:Pos)(as:V bm):bn:=MT o&&F.ai c o&&as.all (F.ai c)&&p.endLine==pos.line&&Nat.blt (R as) 30&&
 cond (WV.lookup x).isSome pH ((T.find? (Ss c o as x)).isSome&&vC (KJ ((T.find? (Ss c o as x)).getD Lp).own) x==sD)
noncomputable def OW(e:bm):bn:=(vw e).ah==4&&(vw (vw e).ar).ah==1&&(vw (vw e).ar).nm=="range"
noncomputable def NQ(e:bm):bn:=Ut e=="behind"||Ut e=="lookback"
noncomputable def WW(F:Fn)(c:CC)(e:bm):LI:=cond (OW e) ((λas:V bm=>cond (R as==1) (qL (F.ak c (h0 as))) (L.æ (F.ak c (h0 as)) (F.ak c (h1 as)) (F.ak c (h2 as)))) (vw e).aS) (cond (NQ e) (qK (F.ak c e)) (qJ (F.ak c e)))
noncomputable def WX(F:Fn)(c:CC)(e:bm):bn:=cond (OW e) (c.aD "range"&&(vw e).aS.all (F.ai c)&&(R (vw e).aS==1||R (vw e).aS==3)) (F.ai c e)
noncomputable def NR(t:bm):V ap:=cond ((vw t).ah==1) [(vw t).nm] ((vw t).aS.map λe=>(vw e).nm)
noncomputable def Wt(nm:V ap)(t:bm):LT:=cond ((vw t).ah==1) (qF (D8 nm (vw t).nm)) ((λes:V bm=>cond (R es==2) (qG (D8 nm (vw (h0 es)).nm) (D8 nm (vw (h1 es)).nm)) (L.t3 (D8 nm (vw (h0 es)).nm) (D8 nm (vw (h1 es)).nm) (D8 nm (vw (h2 es)).nm))) (vw t).aS)
noncomputable def XT(nm:V ap)(t:bm):bn:=(NR t).all (λx=>nm.contains x)&&cond ((vw t).ah==1) pH ((vw t).ah==5&&(vw t).aS.all (λe=>(vw e).ah==1)&&(R (vw t).aS==2||R (vw t).aS==3))
noncomputable def Yl:V (M×V ap):=[(707,["terminal","view","state"]),(618,["view","finder"]),(719,["conflict","view"]),(742,["items","chart_rules"])]
noncomputable def EN(sc:ye)(pos:Pos):V ap:=(Yl.lookup pos.line).getD ((sc.names.filter λx=>x.2==.free).map (·.1))
noncomputable def Vo(F:Fn)(c:CC)(l:V bm):LB:=cond l.isEmpty pV (F.aP c (h0 l))
noncomputable def WY(F:Fn)(c:CC)(l:V bm):bn:=cond l.isEmpty pH (R l==1&&F.az c (h0 l))
noncomputable def g0:t4:=⟨e0,e0,[],0⟩
noncomputable def IW(c:CC)(g:t4)(sc:ye)(pos:Pos):CC:=⟨NR g.target++EN sc pos,KH sc,c.self⟩
noncomputable def Uz(F:Fn)(c:CC)(elt:bm)(g:t4)(sc:ye)(pos:Pos):LE:=
 rg (WW F c g.iter) (R (NR g.target)) ((EN sc pos).map (D8 c.nm)) (Wt (NR g.target++EN sc pos) g.target) (Vo F (IW c g sc pos) g.ifs) (F.ak (IW c g sc pos) elt)
noncomputable def Qe(F:Fn)(c:CC)(elt:bm)(gs:V t4)(sc:ye)(pos:Pos):bn:=(λg:t4=>R gs==1&&g.is_async==0&&WX F c g.iter&&Fj sc (NR g.target) (EN sc pos)&&(EN sc pos).all (λx=>c.nm.contains x&&c.sc.names.lookup x==J .cell)&&
 (NR g.target).all (λx=>(KH sc).names.lookup x==J .local)&&XT (NR g.target++EN sc pos) g.target&&WY F (IW c g sc pos) g.ifs&&F.ai (IW c g sc pos) elt) (gs.headD g0)
noncomputable def Qf(ks:V (sF bm)):bm:=(ks.headD sD).getD e0
noncomputable def UA(c:CC)(ks:V (sF bm)):LE:=cond ks.isEmpty pO (rj (U (D8 c.nm (vw (Qf ks)).nm)) (pG .none))
noncomputable def UB(c:CC)(ks:V (sF bm))(vs:V bm):bn:=cond ks.isEmpty vs.isEmpty (R ks==1&&(ks.headD sD).isSome&&(vw (Qf ks)).ah==1&&c.nm.contains (vw (Qf ks)).nm&&R vs==1&&((vw (h0 vs)).ah==8&&(vw (h0 vs)).cst))
noncomputable def WZ(op:BoolOp)(a b:LE):LE:=op.casesOn (pY a b) (L.Ň a b)
noncomputable def c0(l:V A0):A0:=l.headD .Eq
noncomputable def UC(T:V zU)(F:Fn)(c:CC)(v:db):LE:=v.casesOn (λx ø=>Uu c x) (λo x ø=>L.Zx (Vi c.self o) (XS (Vi c.self o) x) (F.ak c o)) (λo i ø=>WT F c o i)
 (λf as ø=>cond ((vw f).ah==1) (callN T F c (vw f).nm as) (Ux T F c (vw f).ar (vw f).nm as)) (λes ø ø=>pN (RY (F.ak c) es)) (λe gs sc p=>Uz F c e (gs.headD g0) sc p) (λø ø ø=>pG .none) (λv ø ø=>pG (Qa v)) (λø a ø=>pJ qe (F.ak c a))
 (λop a b ø=>pI (WR op) (F.ak c a) (F.ak c b)) (λop es ø=>WZ op (F.ak c (h0 es)) (F.ak c (h1 es))) (λa ops bs ø=>pI (Vj (c0 ops)) (F.ak c a) (F.ak c (h0 bs))) (λt a b ø=>pP (F.aP c t) (F.ak c a) (F.ak c b)) (λes ø=>pM (RY (F.ak c) es)) (λks ø ø=>UA c ks) (pG .none)
noncomputable def Lq(T:V zU)(F:Fn)(c:CC)(v:db):bn:=v.casesOn (λx ø=>Uv c x) (λo x ø=>Yk (Vi c.self o) x&&MT o&&F.ai c o) (λo i ø=>WU F c o i)
 (λf as p=>cond ((vw f).ah==1) (Uw T F c (vw f).nm as) ((vw f).ah==2&&Uy T F c (vw f).ar (vw f).nm (vw f).ag p as)) (λes ø ø=>es.all (F.ai c)) (λe gs sc p=>Qe F c e gs sc p) (λø ø ø=>Zt) (λv ø ø=>Qb v) (λop a ø=>op==.USub&&F.ai c a)
 (λop a b ø=>WS op&&F.ai c a&&F.ai c b) (λø es ø=>R es==2&&es.all (F.ai c)) (λa ops bs ø=>R ops==1&&R bs==1&&Vk (c0 ops)&&F.ai c a&&F.ai c (h0 bs)) (λt a b ø=>F.az c t&&F.ai c a&&F.ai c b) (λes ø=>es.all (F.ai c)) (λks vs ø=>UB c ks vs) Zt
noncomputable def Ym(B:bm->LB)(op:BoolOp):V bm->LB
 | []=>op.casesOn pV pW
 | e::r=>(op.casesOn pS pU:LB->LB->LB) (B e) (Ym B op r)
noncomputable def UD(F:Fn)(c:CC)(a:bm)(ops:V A0)(bs:V bm):LB:=cond (R ops==2) (rB (F.ak c a) (F.ak c (h0 bs)) (F.ak c (h1 bs)))
 (cond (c0 ops==.Is) (pX (λa ø=>qg a) (F.ak c a) (pG .none)) (cond (c0 ops==.IsNot) (pX (λa ø=>qh a) (F.ak c a) (pG .none)) (pX (Vj (c0 ops)) (F.ak c a) (F.ak c (h0 bs)))))
noncomputable def UE(F:Fn)(c:CC)(a:bm)(ops:V A0)(bs:V bm):bn:=F.ai c a&&cond (R ops==2) (ops==[.Lt,.Lt]&&R bs==2&&bs.all (F.ai c))
 (R ops==1&&R bs==1&&cond (c0 ops==.Is||c0 ops==.IsNot) ((vw (h0 bs)).ah==8&&(vw (h0 bs)).cst) (Vk (c0 ops)&&F.ai c (h0 bs)))
noncomputable def UG(f:bm)(as:V bm):bn:=(vw f).ah==1&&(vw f).nm=="isinstance"&&R as==2&&(vw (h1 as)).ah==1&&(vw (h1 as)).nm=="tuple"
noncomputable def UH(F:Fn)(c:CC)(v:db):LB:=v.casesOn (λx p=>pQ (F.ak c (.Name x p))) (λo x p=>pQ (F.ak c (.Attribute o x p))) (λo i p=>pQ (F.ak c (.Subscript o i p))) (λf as p=>cond (UG f as) (L.isTup (F.ak c (h0 as))) (pQ (F.ak c (.Call f as [] p))))
 (λø ø ø=>pV) (λø ø ø ø=>pV) (λø ø ø=>pV) (λø ø ø=>pV) (λø a ø=>pR (F.aP c a)) (λø ø ø ø=>pV) (λop es ø=>Ym (F.aP c) op es) (λa ops bs ø=>UD F c a ops bs) (λø ø ø ø=>pV) (λø ø=>pV) (λø ø ø=>pV) pV
noncomputable def MU(F:Fn)(c:CC)(v:db):bn:=v.casesOn (λx p=>F.ai c (.Name x p)) (λo x p=>F.ai c (.Attribute o x p)) (λo i p=>F.ai c (.Subscript o i p)) (λf as p=>cond (UG f as) (c.aD "isinstance"&&c.aD "tuple"&&F.ai c (h0 as)) (F.ai c (.Call f as [] p)))
 (λø ø ø=>Zt) (λø ø ø ø=>Zt) (λø ø ø=>Zt) (λø ø ø=>Zt) (λop a ø=>op==.Not&&F.az c a) (λø ø ø ø=>Zt) (λø es ø=>es.all (F.az c)) (λa ops bs ø=>UE F c a ops bs) (λø ø ø ø=>Zt) (λø ø=>Zt) (λø ø ø=>Zt) Zt
noncomputable def Ms(T:V zU):M->Fn
 | 0=>⟨λø ø=>pG .none,λø ø=>pV,λø ø=>Zt,λø ø=>Zt⟩
 | n+1=>⟨λc e=>UC T (Ms T n) c (vw e),λc e=>UH (Ms T n) c (vw e),λc e=>Lq T (Ms T n) c (vw e),λc e=>MU (Ms T n) c (vw e)⟩
structure Sn where
 bp:CC->Stmt->LS
 ar:CC->Stmt->bn
noncomputable def Lr(S:Stmt->LS):V Stmt->LS
 | []=>qm
 | x::r=>qo (S x) (Lr S r)
noncomputable def db.sc(v:db):ye:=v.casesOn (λø ø=>default) (λø ø ø=>default) (λø ø ø=>default) (λø ø ø=>default) (λø ø ø=>default) (λø ø sc ø=>sc) (λø ø ø=>default) (λø ø ø=>default) (λø ø ø=>default) (λø ø ø ø=>default) (λø ø ø=>default) (λø ø ø ø=>default) (λø ø ø ø=>default) (λø ø=>default) (λø ø ø=>default) default
noncomputable def YW(c:CC)(x:ap)(p:Pos)(v:db):bn:=cond (v.ah==6) (cond (c.sc.names.lookup x==J .cell) pH (c.sc.kind==.function&&c.sc.names.lookup x==J .local&&(p.line==v.ag.line&&!(v.sc.names.any λ(n,k)=>n==x&&(k==.local||k==.cell))))) pH
noncomputable def UI(c:CC)(es vs:V bm):bn:=R es==2&&R vs==2&&es.all (λe=>(vw e).ah==1&&c.nm.contains (vw e).nm&&c.sc.names.lookup (vw e).nm==J .local)&&c.sc.kind==.function&&((vw (h0 es)).ag.line==(vw (h1 es)).ag.line&&!((vw (h1 es)).nm==(vw (h0 es)).nm)&&!([h0 vs,h1 vs].all (foldedForSure 8))&&!([h0 vs,h1 vs].all (constantsAlone 8)))
noncomputable def W2(F:Fn)(c:CC)(t:bm)(v:bm):LS:=cond ((vw t).ah==1) (qp (D8 c.nm (vw t).nm) (F.ak c v)) (cond ((vw t).ah==2) (L.ZG (Vi c.self (vw t).ar) (XS (Vi c.self (vw t).ar) (vw t).nm) (F.ak c (vw t).ar) (F.ak c v))
 (cond ((vw t).ah==5) (rA (cond ((vw v).ah==5) (L.Ě (D8 c.nm (vw (h0 (vw t).aS)).nm) (D8 c.nm (vw (h1 (vw t).aS)).nm)) (Wt c.nm t)) (F.ak c v)) (qB (F.ak c (vw t).ar) (F.ak c ((vw t).o1.getD e0)) (F.ak c v))))
noncomputable def W3(F:Fn)(c:CC)(t:bm)(v:bm):bn:=F.ai c v&&cond ((vw t).ah==1) (c.nm.contains (vw t).nm&&YW c (vw t).nm (vw t).ag (vw v)) (cond ((vw t).ah==2) (Yk (Vi c.self (vw t).ar) (vw t).nm&&F.ai c (vw t).ar)
 (cond ((vw t).ah==5) (cond ((vw v).ah==5) (UI c (vw t).aS (vw v).aS) (XT c.nm t&&!((vw v).ah==6))) ((vw t).ah==3&&F.ai c (vw t).ar&&F.ai c ((vw t).o1.getD e0))))
noncomputable def YX(F:Fn)(X:Sn)(c:CC):Stmt->LS:=Ye rh (λø ø ø=>rh) (λø=>rh) (λe=>qt (F.ak c (e.getD e0))) (λts v=>W2 F c (h0 ts) v)
 (λt it b ø=>cond (NQ it&&!OW it) (qM (qI (WW F c it) (Wt c.nm t) (Lr (X.bp c) b))) (qI (WW F c it) (Wt c.nm t) (Lr (X.bp c) b))) (λt b ø=>qw (F.aP c t) (Lr (X.bp c) b)) (λt b o=>qv (F.aP c t) (Lr (X.bp c) b) (Lr (X.bp c) o)) (λe=>qr (F.ak c e)) L.brk qu
noncomputable def YY(F:Fn)(X:Sn)(c:CC):Stmt->bn:=Ye pH (λø ø ø=>pH) (λø=>pH) (λe=>e.isSome&&F.ai c (e.getD e0)) (λts v=>R ts==1&&W3 F c (h0 ts) v) (λt it b o=>WX F c it&&XT c.nm t&&b.all (X.ar c)&&o.isEmpty)
 (λt b o=>F.az c t&&b.all (X.ar c)&&o.isEmpty) (λt b o=>F.az c t&&b.all (X.ar c)&&o.all (X.ar c)) (λe=>F.ai c e&&!((vw e).ah==6)) pH pH
noncomputable def W4(T:V zU):M->Sn
 | 0=>⟨λø ø=>rh,λø ø=>pH⟩
 | n+1=>⟨YX (Ms T 24) (W4 T n),YY (Ms T 24) (W4 T n)⟩
noncomputable def zU.aE(x:zU):CC:=⟨x.ba++x.ls,Af x.st,x.own⟩
noncomputable def zU.bz(T:V zU)(x:zU):LS:=Lr ((W4 T 16).bp x.aE) (DE x.st)
noncomputable def zU.O(T:V zU)(x:zU):bn:=(DE x.st).all ((W4 T 16).ar x.aE)
noncomputable def W5:zU:=⟨0,"law",0,829,Cw 61,.none,1,[],["pen","pairs","grammar","view","chart_rules","wanted","pick","some","shown","conflict","examples","one"],P7⟩
noncomputable def AN:V zU:=[
 ⟨0,"_law_pen",0,757,Cw 49,.none,1,[],["number","cell"],Hp⟩,
 ⟨0,"_law_draw",0,764,Cw 50,.none,2,[],["digit"],Fp⟩,
 ⟨0,"_law_right",0,769,Cw 51,.none,2,[],[],DF⟩,
 ⟨0,"_law_pairs",0,776,Cw 52,.none,1,[],["more","pairs","turn","left"],DG⟩,
 ⟨87,"Rule",1,84,zZ 9 0,(.ref 77),5,[.none,.int 0,.int 0],[],Aw⟩,
 ⟨0,"last_terminal",0,180,Cw 11,.none,2,[],["found","symbol"],yw⟩,
 ⟨169,"Grammar",1,103,zZ 10 0,.none,7,[],["rule"],zo⟩,
 ⟨0,"plain_grammar",0,186,Cw 12,(.ref 181),1,[.none],["lefts","left","parts","begin","names","name","count","rules","right"],xa⟩,
 ⟨264,"LrState",1,247,zZ 23 0,.none,4,[],[],zq⟩,
 ⟨425,"number_of",2,408,zZ 29 1,.none,3,[],[],wj⟩,
 ⟨169,"item",2,145,zZ 10 6,.none,3,[],[],zt⟩,
 ⟨169,"after",2,166,zZ 10 9,.none,2,[],["right","dot"],yz⟩,
 ⟨306,"wanted",2,289,zZ 24 1,.none,2,[],["mask","item","symbol"],yA⟩,
 ⟨0,"bits",0,68,Cw 4,.none,1,[],["found","at","left"],MO⟩,
 ⟨169,"rules_of",2,138,zZ 10 5,.none,2,[],[],wG⟩,
 ⟨306,"added",2,296,zZ 24 2,.none,2,[],["found","symbol","number","item"],zu⟩,
 ⟨306,"close",2,303,zZ 24 3,.none,2,[],[],zw⟩,
 ⟨169,"rule_of",2,152,zZ 10 7,.none,2,[],[],xc⟩,
 ⟨0,"complete_rules",0,331,Cw 27,.none,2,[],["found","item"],xF⟩,
 ⟨169,"dot_of",2,159,zZ 10 8,.none,2,[],[],xH⟩,
 ⟨0,"advanced",0,317,Cw 25,.none,2,[],[],DK⟩,
 ⟨0,"kernels_behind",0,324,Cw 26,.none,2,[],["found","item","symbol","ordered"],xI⟩,
 ⟨425,"expand",2,415,zZ 29 2,.none,2,[],["behind","symbol"],xK⟩,
 ⟨383,"Automaton",1,345,zZ 28 0,.none,3,[],[],xN⟩,
 ⟨425,"built",2,422,zZ 29 3,.none,1,[],["at"],yC⟩,
 ⟨169,"symbol_count",2,110,zZ 10 1,.none,1,[],[],vH⟩,
 ⟨0,"transitive",0,219,Cw 18,.none,1,[],["found","middle","one"],BC⟩,
 ⟨306,"Closer",1,282,zZ 24 0,.none,2,[],["rows","rule"],Ax⟩,
 ⟨425,"Builder",1,401,zZ 29 0,.none,2,[],[],zy⟩,
 ⟨0,"build",0,436,Cw 30,.none,1,[],[],JN⟩,
 ⟨0,"spread",0,191,Cw 14,.none,2,[],["found","lacking","users","queue","rule","missing","symbol","at","number","left"],Hz⟩,
 ⟨0,"nullable",0,198,Cw 15,.none,1,[],[],DN⟩,
 ⟨169,"is_terminal",2,117,zZ 10 2,.none,2,[],[],vT⟩,
 ⟨500,"number_transitions",2,462,zZ 33 1,.none,1,[],["grammar","state","symbol"],uz⟩,
 ⟨264,"goto",2,254,zZ 23 1,.none,2,[],[],zA⟩,
 ⟨383,"goto",2,352,zZ 28 1,.none,3,[],[],xP⟩,
 ⟨500,"find_reads",2,469,zZ 33 2,.none,1,[],["grammar","state","symbol","goal","mask","row","moves","later"],vD⟩,
 ⟨500,"open_ends",2,483,zZ 33 4,.none,2,[],["spot"],vI⟩,
 ⟨0,"add_once",0,511,Cw 34,.none,2,[],[],DO⟩,
 ⟨500,"find_includes",2,476,zZ 33 3,.none,1,[],["grammar","state","rule","x","first","left","right","ends","at","spot","symbol","inner"],u1⟩,
 ⟨0,"digraph",0,443,Cw 32,.none,3,[],["result","heights","done","pile","start","frames","frame","x","y","last"],Fx⟩,
 ⟨500,"joined_masks",2,490,zZ 33 5,.none,1,[],["masks","pair","mask","x"],u6⟩,
 ⟨500,"Lookaheads",1,455,zZ 33 0,.none,2,[],["count"],xg⟩,
 ⟨0,"lalr_masks",0,518,Cw 35,.none,1,[],[],BF⟩,
 ⟨696,"View",1,674,zZ 41 0,.none,5,[],[],CE⟩,
 ⟨0,"lalr_view",0,705,Cw 42,.none,1,[],["automaton"],CF⟩,
 ⟨746,"Conflict",1,736,zZ 47 0,.none,6,[],[],yF⟩,
 ⟨0,"_law_conflicts",0,807,Cw 57,.none,1,[],["found","terminals","state","terminal","rules","other"],zF⟩,
 ⟨0,"first_of",0,205,Cw 16,.none,3,[],["mask","symbol"],DR⟩,
 ⟨0,"first_masks",0,212,Cw 17,.none,1,[],["nullables","firsts","symbol","is_grown","rule","mask"],AA⟩,
 ⟨656,"Finder",1,595,zZ 39 0,.none,2,[],[],AD⟩,
 ⟨696,"complete",2,686,zZ 41 2,.none,2,[],[],yG⟩,
 ⟨696,"items_of",2,679,zZ 41 1,.none,2,[],["core"],yI⟩,
 ⟨0,"conflict_items",0,710,Cw 43,.none,2,[],["items","item"],xQ⟩,
 ⟨656,"rest",2,602,zZ 39 1,.none,2,[],["grammar"],AF⟩,
 ⟨577,"Path",1,574,zZ 38 0,.none,3,[],[],CI⟩,
 ⟨656,"path_back",2,631,zZ 39 5,.none,3,[],["symbols","rests","symbol","earlier"],wI⟩,
 ⟨656,"goal",2,609,zZ 39 2,.none,4,[],[],AG⟩,
 ⟨656,"steps",2,616,zZ 39 3,.none,4,[],["place","item","can_follow","grammar","symbol","found","goal","mask","is_open","later","rule"],zK⟩,
 ⟨656,"find",2,624,zZ 39 4,(.ref 617),6,[],["begin","parents","line","at","vertex","symbol","later"],AI⟩,
 ⟨656,"opened",2,638,zZ 39 6,.none,3,[],["parents","line","at","here","rule","right","spot","part","found","tail"],yK⟩,
 ⟨656,"suffix",2,645,zZ 39 7,.none,4,[],["grammar","row","rest","spot"],yM⟩,
 ⟨556,"Example",1,532,zZ 37 0,.none,5,[],[],zO⟩,
 ⟨656,"example",2,653,zZ 39 8,(.ref 646),6,[],["end","path"],wc⟩,
 ⟨656,"example",2,653,zZ 39 8,(.ref 646),5,[.none],["end","path"],wK⟩,
 ⟨0,"examples_of",0,717,Cw 44,.none,3,[],["found","item","must_follow","one"],AJ⟩,
 ⟨0,"view_examples",0,722,Cw 45,.none,2,[],["finder"],yN⟩,
 ⟨746,"told",2,743,zZ 47 1,.none,1,[],[],yO⟩,
 ⟨383,"walk",2,359,zZ 28 2,.none,3,[],["here","symbol"],xT⟩,
 ⟨0,"_law_shifts",0,819,Cw 59,.none,3,[],["number","dot","right"],CJ⟩,
 ⟨0,"_law_counts_fit",0,812,Cw 58,.none,3,[],["grammar","places","wanted","reduced_ones","shifted"],yP⟩,
 ⟨0,"_law_close",0,795,Cw 55,.none,2,[],["found","at","number","dot","right","other"],DU⟩,
 ⟨0,"_law_items",0,802,Cw 56,.none,2,[],["items","name","behind","number","dot"],DV⟩,
 ⟨0,"_law_ends",0,781,Cw 53,.none,2,[],["ends","first_spot","is_new","left","right","spots","name","later","spot","goals","known","goal"],FL⟩,
 ⟨0,"_law_derives",0,788,Cw 54,.none,3,[],[],BK⟩,
 ⟨0,"joined_words",0,226,Cw 19,.none,2,[],["found","symbol"],zR⟩,
 ⟨0,"least_words",0,233,Cw 20,.none,1,[],["words","symbol","is_changed","rule","word"],AL⟩,
 ⟨556,"sentence",2,546,zZ 37 2,.none,2,[],["words","found","symbol"],wN⟩,
 ⟨0,"_law_example_fits",0,824,Cw 60,.none,4,[],["number","dot","left","right","ahead","behind","items","form","rest","told_word"],xi⟩,
 W5]
noncomputable def Ls(K:Frag)(x:zU):bn:=match x.kd with
 | 0=>nsIn K sV x.nm==J (J (.ref x.ae))&&Fh K (.ref x.ae)
 | 1=>nsIn K sV x.nm==J (J (.ref x.own))&&Fh K (.ref x.own)&&makesIn K x.own&&Hh K (.ref x.own) "__init__"==J (J (.ref x.ae))&&typeIn K (.ref x.ae)==J (.type "function")
 | _=>MH K x.own x.nm x.ae&&Fh K (.ref x.ae)
noncomputable def Yn:V (ap×sF sR):=JX.map (λv=>(v.1,J (mH v.2.1 v.2.2)))++(Vf.map (λx=>(x,(sD:sF sR)))++[(("OWN_TERMINALS" : ap),J (kb 69))])
noncomputable abbrev z6(K:Frag):Prop:=(Yn.all λx=>nsIn K sV x.1==J x.2)=pH/\(Ws.all λc=>c.2.all λx=>Fg K c.1 x&&A5 K c.1 x)=pH/\(AN.all (Ls K))=pH/\(∀x∈AN,Sl K x.ae x.st x.bh)/\(∃ws n,K.lookup 69=J ⟨.type "tuple",sD,.seq ws n,#[]⟩/\R ws.toList=R Vg/\∀(i:M) y,Vg[i]?=J y->∃t,ws.toList[i]?=J (.str y t))/\(∃a b c n,K.lookup 77=J ⟨.type "tuple",sD,.seq #[.int (-1) a,.none,.int 0 b,.int 0 c] n,#[]⟩)/\(∃n,K.lookup 181=J ⟨.type "tuple",sD,.seq #[.none] n,#[]⟩)/\(∃n,K.lookup 617=J ⟨.type "tuple",sD,.seq #[.none] n,#[]⟩)/\∃n,K.lookup 646=J ⟨.type "tuple",sD,.seq #[.none] n,#[]⟩
def z6.aD(h:z6 fw):=h.1
def z6.aF(h:z6 fw):=h.2.1
def z6.ai(h:z6 fw):=h.2.2.1
def z6.af(h:z6 fw):=h.2.2.2.1
def z6.own(h:z6 fw):=h.2.2.2.2.1
def z6.d77(h:z6 fw):=h.2.2.2.2.2.1
def z6.Ν(h:z6 fw):=h.2.2.2.2.2.2.1
def z6.Μ(h:z6 fw):=h.2.2.2.2.2.2.2.1
def z6.Κ(h:z6 fw):=h.2.2.2.2.2.2.2.2
theorem z6.gl(ci:z6 fw){x:ap×sF sR}(h:x∈Yn):nsIn fw sV x.1=J x.2:=eq_of_beq (i9.mp ci.aD x h)
theorem MV{α β:Type} [BEq α] [LawfulBEq α] {l:V (α×β)} {a:α} {b:β} (h:l.lookup a=J b):(a,b)∈l:=by
 induction l with
 | nil=>exact uH h
 | cons p l ih=>
  rw[kG]at h
  by_cases q:(a==p.1)=pH
  .rw[q]at h;refine tj (gv h) ?_;exact D (eq_of_beq q) gI
  .rw[kX.mpr q]at h;exact gH _ (ih h)
theorem Yo{α β:Type} [BEq α] [LawfulBEq α] {l:V (α×β)} {a:α} {d:β} (h:(l.lookup a).isSome=pH):(a,(l.lookup a).getD d)∈l:=by
 exact xE (j5.mp h) λv e=>D e (MV e)
theorem z6.int(ci:z6 fw){x:ap}(h:(JX.lookup x).isSome=pH):nsIn fw sV x=J (J (.int ((JX.lookup x).getD (0,0)).1 ((JX.lookup x).getD (0,0)).2)):=
 ci.gl (x:=(x,J (.int ((JX.lookup x).getD (0,0)).1 ((JX.lookup x).getD (0,0)).2))) (gV _ (gL.mpr (ti _ (Yo h) H)))
theorem z6.blt(ci:z6 fw){x:ap}(h:x∈Vf):nsIn fw sV x=J sD:=ci.gl (x:=(x,sD)) (gU _ (gV _ (gL.mpr (ti x h H))))
theorem z6.at_(ci:z6 fw)(h:Yk c nl=pH):vC (KJ c) nl=J (XS c nl)/\Fg fw c nl=pH/\A5 fw c nl=pH:=by
 refine xE (j5.mp h) λi e=>⟨e.trans (sJ J (by unfold XS;refine D e ?_;rfl)),?_⟩
 refine s9 (List.findIdx?_eq_some_iff_getElem.mp e) λhi q ø=>?_
 have hm:nl∈KJ c:=eq_of_beq q▸List.getElem_mem hi;unfold KJ at hm;cases hl:Ws.lookup c with
 | none=>rw[hl]at hm;cases hm
 | some ys=>
  rw[hl]at hm;exact iL.mp (i9.mp (i9.mp ci.aF (c,ys) (MV hl)) nl hm)
noncomputable def JY(K:Frag):bn:=K.all λp=>p.2.cls != .type "list"
theorem OX(h:JY fw=pH)(e:fw.lookup a=J od):od.cls≠.type "list":=by
 unfold JY at h
 induction fw with
 | nil=>exact uH e
 | cons p fw ih=>
  rw[List.all_cons,jn]at h;obtain ⟨b,x⟩:=p;rw[kG]at e
  split at e
  .refine tj (gv e) ?_;exact bne_iff_ne.mp h.1
  .exact ih h.2 e
noncomputable def Lu(kt:s8)(r:Result)(s':s8):Prop:=r=.ok (.ret (.bool pH))/\OldK kt.heap s'.heap/\s'.os=kt.os/\s'.gens = #[]
noncomputable def W6:Data->sF A4
 | .func fd=>J fd
 | _=>sD
theorem Su{d:Data}{fd:A4}(h:W6 d=J fd):d=.func fd:=by
 cases d with
 | func f=>exact sJ Data.func (gv h)
 | _=>exact uH h
noncomputable def UJ(K:Frag)(a:sE):sF ((FuncBody×ye×Fm)×(sE×sE×V (ap×sE)×sR×sR)×bn):=(K.lookup a).bind λo=>(W6 o.data).map λfd=>
 ((fd.body,fd.scope,fd.params),(fd.globals,fd.builtins,fd.closure,fd.defaults,fd.kwdefaults),codeIn K fd.code fd.qualname)
theorem Qg{st:Stmt}(h:UJ fw a=J ((.stmts (DE st),Af st,BA st),(sV,tO,[],dv,.none),pH)):Sl fw a st dv:=by
 refine s9 (kB.mp h) λo e h=>s9 (gR.mp h) λfd e2 hq=>?_
 cases o with
 | mk oc od da Ç=>
  obtain rfl:=Su e2;simp only[Prod.mk.injEq]at hq;exact⟨oc,od,fd,Ç,e,hq.2.2,hq.1.1,hq.1.2.1,hq.1.2.2,hq.2.1.1,hq.2.1.2.1,hq.2.1.2.2.1,hq.2.1.2.2.2⟩
noncomputable def Lv:sR->sR
 | .int i _=>.int i 0
 | .str x _=>.str x 0
 | v=>v
noncomputable def UK:Data->sF (uX sR×M)
 | .seq ws n=>J (ws,n)
 | _=>sD
theorem Qh{d:Data}{p:uX sR×M}(h:UK d=J p):d=.seq p.1 p.2:=by
 cases d with
 | seq ws n=>exact sJ (λp:uX sR×M=>Data.seq p.1 p.2) (gv h)
 | _=>exact uH h
noncomputable def DY(K:Frag)(a:sE):sF (V sR):=(K.lookup a).bind λo=>(UK o.data).bind λp=>if o.cls=.type "tuple"/\o.dict=sD/\o.slots = #[] then J (p.1.toList.map Lv) else sD
theorem FO(h:DY fw a=J cN):∃ws n,fw.lookup a=J ⟨.type "tuple",sD,.seq ws n,#[]⟩/\ws.toList.map Lv=cN:=by
 refine s9 (kB.mp h) λo e h=>s9 (kB.mp h) λp e2 hq=>?_
 by_cases q:o.cls=.type "tuple"/\o.dict=sD/\o.slots = #[]
 .rw[sI q]at hq;cases o with
  | mk c d da sl=>exact w1 p.1 p.2 (e.trans (sJ J (congr (congr (congr (sJ Obj.mk q.1) q.2.1) (Qh e2)) q.2.2))) (gv hq)
 .rw[sH q]at hq;exact uH hq
theorem FP(h:Lv vv=.int hs 0):∃t,vv=.int hs t:=by
 cases vv with
 | int j t=>exact⟨t,sJ (λj=>mH j t) (n9 h).1⟩
 | _=>exact(sN lO h).elim
theorem FQ(h:Lv vv=.str nl 0):∃t,vv=.str nl t:=by
 cases vv with
 | str j t=>exact⟨t,sJ (λj=>sR.str j t) (og h).1⟩
 | _=>exact(sN lO h).elim
theorem HL(h:Lv vv=.none):vv=.none:=by
 cases vv with
 | none=>rfl
 | _=>exact(sN lO h).elim
theorem HM(h:DY fw a=J [.none]):∃n,fw.lookup a=J ⟨.type "tuple",sD,.seq #[.none] n,#[]⟩:=by
 obtain ⟨⟨ws⟩,n,e,q⟩:=FO h;obtain ⟨v1,ws,rfl,q1,q⟩:=kg.mp q;cases lj.mp q;rw[HL q1]at e;exact⟨n,e⟩
theorem Vp(g:(Yn.all λx=>nsIn fw sV x.1==J x.2)=pH)(t:(Ws.all λc=>c.2.all λx=>Fg fw c.1 x&&A5 fw c.1 x)=pH)(en:AN.all (Ls fw)=pH)
  (f:AN.map (λx=>UJ fw x.ae)=AN.map λx=>J ((.stmts (DE x.st),Af x.st,BA x.st),(sV,tO,[],x.bh,.none),pH))
  (h69:DY fw 69=J [.str "$end" 0,.str "error" 0,.str "$undefined" 0]) (Ť:DY fw 77=J [.int (-1) 0,.none,.int 0 0,.int 0 0]) (Ś:DY fw 181=J [.none]) (ř:DY fw 617=J [.none]) (Ī:DY fw 646=J [.none]):z6 fw:=by
 refine⟨g,t,en,λx hx=>Qg (List.map_inj_left.mp f x hx),?_,?_,HM Ś,HM ř,HM Ī⟩
 .obtain ⟨⟨ws⟩,n,e,q⟩:=FO h69;obtain ⟨v1,ws,rfl,q1,q⟩:=kg.mp q;obtain ⟨v2,ws,rfl,q2,q⟩:=kg.mp q;obtain ⟨v3,ws,rfl,q3,q⟩:=kg.mp q;cases lj.mp q
  (refine xE (FQ q1) λø e9=>?_;subst e9)
  (refine xE (FQ q2) λø e9=>?_;subst e9)
  (refine xE (FQ q3) λø e9=>?_;subst e9)
  refine(tU _ n e H (λi y h=>?_))
  match i,h with
  | 0,h=>obtain rfl:=gv h;exact⟨_,H⟩
  | 1,h=>obtain rfl:=gv h;exact⟨_,H⟩
  | 2,h=>obtain rfl:=gv h;exact⟨_,H⟩
 .obtain ⟨⟨ws⟩,n,e,q⟩:=FO Ť;obtain ⟨v1,ws,rfl,q1,q⟩:=kg.mp q;obtain ⟨v2,ws,rfl,q2,q⟩:=kg.mp q;obtain ⟨v3,ws,rfl,q3,q⟩:=kg.mp q;obtain ⟨v4,ws,rfl,q4,q⟩:=kg.mp q;cases lj.mp q;obtain ⟨_,rfl⟩:=FP q1;cases HL q2;obtain ⟨_,rfl⟩:=FP q3;obtain ⟨_,rfl⟩:=FP q4;exact(Dz _ _ _ ⟨n,e⟩)
theorem Sv{P:Params}{xs:V WData}(w:Well P h (.ref a) (.list xs))(l:h.IsList a cN.toArray):h.get? a=J ⟨.type "list",sD,.seq cN.toArray 0,#[]⟩:=by
 (refine tW l λo e ø r9=>xE r9 λn d=>?_)
 cases w with
 | list g _=>
  rw[g]at e;obtain rfl:=gv e;injection d with d1 d2
  exact D g (D d1 H)
theorem Sw{xs:V w6}(r:Reads h (.ref a) (.list xs) ra):a∈ra:=by
 cases r;exact gI
theorem Lu.good{c:ClaimW}{cl:ap->sF sE}{ì:ExcName->sF sR}{args:V WData}(hn:∀cls,c.raises args cls=Zt)(hp:c.post args (.bool pH) args=pH)(r:Result)(s':s8)(g:Lu kt r s'):GoodWG c cl ì args kt r s':=by
 (refine D9 g λe9 k ho hg=>?_;refine D e9 ?_)
 exact(AV (.inl (tq (.bool pH) (.bool pH) ([]) H hn (.bool pH) hp (λø=>⟨iU,λa ha=>by cases ha⟩))) k ho (.of_eq hg))
noncomputable def MW:Prop:=∀{p q:GY} {loose:V ap} {ì:ExcName->sF sR} {mg mb:ap->sF sR} {w:World} {K:Frag} {kt:s8} {l:sE} {vs:V sR} {ns:V al},z6 K->K.In kt.heap->JY K=pH->Top q loose ì mg mb kt.heap->kt.gens = #[]->
 kt.heap.get? l=J ⟨.type "list",sD,.seq vs.toArray 0,#[]⟩->zc vs ns->R ns<=63->(l==zj)=Zt->Ek (Ha p w) callerA (.call (.ref 829) ⟨[.ref l],[]⟩) (Lu kt) kt
noncomputable abbrev DZ(N:M)(c:CC)(A:vy)(env:dL):Prop:=env.scope=c.sc/\Rm A (N+1)
def DZ.sc(h:DZ N g5 A env):=h.1
def DZ.aO(h:DZ N g5 A env):=h.2
theorem DZ.ah(o:DZ N g5 A env){r:sF tM}(h:(g5.sc.names.lookup nl==r)=pH):env.kindOf nl=r:=kd o.sc (eq_of_beq h)
theorem DZ.aD(o:DZ N g5 A env)(h:g5.aD nl=pH):env.kindOf nl=J .globalImplicit:=o.ah (a1 h)
theorem CC.au(h:g5.aD nl=pH):(nl==("__debug__" : ap))=Zt:=(j6 _).mp (a2 h)
noncomputable abbrev xX(C:Cx)(N:M)(F:Fn):Prop:=(∀{c e},F.ai c e=pH->vk e)/\(∀{c e A env},F.ai c e=pH->DZ N c A env->tA C A env (c.nm.map J) (eval e env) (F.ak c e))/\∀{c e A env},F.az c e=pH->DZ N c A env->wA C A env (c.nm.map J) (uD e env (eval e env)) (F.aP c e)
def xX.aW(h:xX C N g7):=@mK _ _ h
def xX.ak(h:xX C N g7):=@mK _ _ h.2
def xX.aP(h:xX C N g7):=@kZ _ _ h.2
theorem UL(h:(R as==1)=pH):as=[h0 as]:=by
 match as,h with
 | [a],_=>rfl
theorem Wu(h:(R as==2)=pH):as=[h0 as,h1 as]:=by
 match as,h with
 | [a,b],_=>rfl
theorem YZ(h:(R as==3)=pH):as=[h0 as,h1 as,h2 as]:=by
 match as,h with
 | [a,b,c],_=>rfl
theorem W7{l:V A0}(h:(R l==1)=pH):l=[c0 l]:=by
 match l,h with
 | [a],_=>rfl
theorem BL(h:∀e∈as,vk e):(uO pos (sZ as env)).any (·.1)=Zt:=by
 induction as with
 | nil=>rfl
 | cons e r ih=>
  exact D ((h e gI).star _ _) (ih λe he=>h e (gH _ he))
theorem Y0(h:∀e∈as,vk e)(hl:R as<30):((uO pos (sZ as env)).all (λx=>!x.1)&&(backToKw pos (keywordEach [] env)).all (λx=>x.1.isSome)&&decide (R as+R ([]:V Keyword)+(if ([]:V Keyword).isEmpty then 0 else 1)<30))=pH:=by
 have h1:(uO pos (sZ as env)).all (λx=>!x.1)=pH:=by
  have:=BL (env:=env) (pos:=pos) h;rw[List.any_eq_not_all_not,nQ]at this;exact this
 exact D h1 (sM hl)
theorem xX.all(X:xX C N g7)(h:as.all (g7.ai g5)=pH):∀e∈as,vk e:=λe he=>X.aW (i9.mp h e he)
theorem xX.st(X:xX C N g7)(h:as.all (g7.ai g5)=pH)(e:bm)(r:V bm)(q:as=e::r):sZ (e::r) env=(Zt,eval e env)::sZ r env:=(X.all h e (q▸gI)).star _ _
theorem JZ(h:as=[]):RY (g7.ak g5) as=pK:=h▸rfl
theorem CO(X:xX C N g7)(o:DZ N g5 A env):∀{es:V bm},es.all (g7.ai g5)=pH->∀pos,BW C A env (g5.nm.map J) (wt (uO pos (sZ es env))) (RY (g7.ak g5) es)
 | [],_,_=>S.nil
 | _::_,h,pos=>S.cons (X.ak (a1 h) o) (CO X o (a2 h) pos) ((X.aW (a1 h)).star _ _)
theorem Qi(HK:z6 C.aI)(o:DZ N g5 A env){p:Pos}(h:Uv g5 nl=pH):tA C A env (g5.nm.map J) (eval (.Name nl p) env) (Uu g5 nl):=
 NP (Q:=tA C A env (g5.nm.map J) (eval (.Name nl p) env)) h (λq ø=>S.var (xV q)) λø h=>NP (Q:=λw=>tA C A env (g5.nm.map J) (eval (.Name nl p) env) (pG w)) (a2 h) (λq ø=>S.Θ (o.aD (a1 h)) (HK.int q) (CC.au (a1 h))) λø q=>by
  cases eq_of_beq q;exact S.Z_ (o.aD (a1 h)) (HK.gl (x:=("OWN_TERMINALS",J (.ref 69))) (gU _ (gU _ gI))) HK.own (by decide) (CC.au (a1 h))
theorem OY{v:Const}(h:Qb v=pH):tA C A env Zw (eval (.Constant v k pos) env) (pG (Qa v)):=by
 cases v<;>first | exact S.n? | exact S.aha | exact S.Ε | exact S.Ξ | exact absurd h iw
theorem Sx(bi:Rm A N){op:Ed}(h:WS op=pH):zb C A (wm op) (WR op):=by
 cases op<;>first | exact absurd h iw | exact S.add _ bi | exact S.sub | exact S.mul _ bi | exact S.fdiv | exact S.fmod | exact S.bor | exact S.band | exact S.shl | exact S.shr
theorem NS(bi:Rm A N){op:A0}(h:Vk op=pH):zb C A (u7 op) (Vj op):=by
 cases op<;>first | exact absurd h iw | exact S.lt | exact S.gt | exact S.ge | exact S.eq _ bi | exact S.ne _ bi | exact S.isIn _ bi | exact S.X? _ bi
theorem Lw(X:xX C N g7)(o:DZ N g5 A env):∀{e:sF bm},Qd (g7.ai g5) e=pH->tA C A env (g5.nm.map J) (v7 (By e env)) (Qc (g7.ak g5) e)
 | none,_=>S.S! H
 | some _,h=>S.part (X.ak h o)
theorem Sz(X:xX C N g7)(o:DZ N g5 A env){p:Pos}(h:WU g7 g5 ea eb=pH):tA C A env (g5.nm.map J) (eval (.Subscript ea eb p) env) (WT g7 g5 ea eb):=
 NP (Q:=tA C A env (g5.nm.map J) (eval (.Subscript ea eb p) env)) (a2 h) (λq h2=>(Yi q).symm▸S.slice (X.ak (a1 h) o) (Lw X o (a1 h2)) (Lw X o (a2 h2))) λø h2=>S.item _ o.aO (X.ak (a1 h) o) (X.ak h2 o) (X.aW h2).sub
noncomputable def W8(C:Cx)(A:vy)(y:ap×sR×(V LV->LP)):Prop:=Bu y.1=J y.2.1/\y.1≠"__name__"/\((∃id,y.2.1=.builtin id)\/∃g9,y.2.1=.type g9)/\De C A y.2.1 y.2.2/\y.1∈Vf
theorem Vq(bi:Rm A N):∀y∈Sr,W8 C A y:=
 iY.mpr ⟨(Cj (by decide +kernel) (by decide +kernel) (.inl ⟨_,H⟩) (S.len bi) (by decide +kernel)),iY.mpr ⟨(Cj (by decide +kernel) (by decide +kernel) (.inr ⟨_,H⟩) (S.listOf bi) (by decide +kernel)),
  iY.mpr ⟨(Cj (by decide +kernel) (by decide +kernel) (.inr ⟨_,H⟩) (S.tupOf bi) (by decide +kernel)),iY.mpr ⟨(Cj (by decide +kernel) (by decide +kernel) (.inl ⟨_,H⟩) (S.sorted bi) (by decide +kernel)),
  iY.mpr ⟨(Cj (by decide +kernel) (by decide +kernel) (.inl ⟨_,H⟩) (S.ã bi) (by decide +kernel)),iY.mpr ⟨(Cj (by decide +kernel) (by decide +kernel) (.inl ⟨_,H⟩) (S.maxOf bi) (by decide +kernel)),λø h=>absurd h jY⟩⟩⟩⟩⟩⟩
noncomputable abbrev HN(C:Cx)(A:vy)(y:ap×(LH->LV->Prop)×(V LV->LP))(T id:String):Prop:=PlainAttrs T/\Slot T y.1 id/\typeOf (.builtin id)=pure (.type "method_descriptor")/\De C A (.builtin id) y.2.2/\∀st s x v,tV C st s->tH s.heap x v->y.2.1 st x->s.TypeIs v T/\∀a,v=.ref a->∃ob,s.heap.get? a=J ob/\ob.dict=sD
def HN.ag{y:ap×(LH->LV->Prop)×(V LV->LP)}(h:HN C A y fc fe):=h.1
def HN.ay{y:ap×(LH->LV->Prop)×(V LV->LP)}(h:HN C A y fc fe):=h.2.1
def HN.aF{y:ap×(LH->LV->Prop)×(V LV->LP)}(h:HN C A y fc fe):=h.2.2.1
def HN.n{y:ap×(LH->LV->Prop)×(V LV->LP)}{T:String}(h:HN C A y T fc):=h.2.2.2.1
def HN.aN{y:ap×(LH->LV->Prop)×(V LV->LP)}(h:HN C A y fc fe):=h.2.2.2.2
theorem W9(bi:Rm A N):∀y∈WV,∃g9 id,HN C A y g9 id:=
 iY.mpr ⟨(KD _ _ ⟨mL,oJ,PySem.F.type_list_append,S.append bi,λø ø ø ø=>q9⟩),iY.mpr ⟨(KD _ _ ⟨mL,PySem.F.slot_list_extend,PySem.F.type_list_extend,S.extend bi,λø ø ø ø=>q9⟩),
  iY.mpr ⟨(KD _ _ ⟨mL,PySem.F.slot_list_pop,PySem.F.type_list_pop,S.pop bi,λø ø ø ø=>q9⟩),iY.mpr ⟨(KD _ _ ⟨mL,PySem.F.slot_list_index,PySem.F.type_list_index,S.index bi,λø ø ø ø=>q9⟩),
  iY.mpr ⟨(KD _ _ ⟨oQ,PySem.F.slot_dict_get,PySem.F.type_dict_get,S.dictGet bi,λø ø ø ø=>S.j_⟩),iY.mpr ⟨(KD _ _ ⟨oQ,PySem.F.slot_dict_setdefault,PySem.F.type_dict_setdefault,S.setDefault bi,λø ø ø ø=>S.j_⟩),λø h=>absurd h jY⟩⟩⟩⟩⟩⟩
noncomputable def Dx(C:Cx)(N:M)(T:V zU):Prop:=∀x∈T,x∈AN/\B7 C N (.ref x.ae) x.bu
noncomputable abbrev Gj(C:Cx)(N:M)(P:zU->bn)(e:zU):Prop:=P e=pH/\Ls C.aI e=pH/\B7 C N (.ref e.ae) e.bu
def Gj.ag{P:zU->bn}{e:zU}(h:Gj C N P e):=h.1
def Gj.ah{P:zU->bn}{e:zU}(h:Gj C N P e):=h.2.1
def Gj.ay{P:zU->bn}{e:zU}(h:Gj C N P e):=h.2.2
theorem UM(HK:z6 C.aI)(hT:Dx C N g9){P:zU->bn}{d:zU}(h:(g9.find? P).isSome=pH):Gj C N P ((g9.find? P).getD d):=by
 exact xE (j5.mp h) λe he=>D he ⟨List.find?_some he,i9.mp HK.ai e (hT e (nH he)).1,(hT e (nH he)).2⟩
theorem NT(h:((vw ea).ah==1)=pH)(q:((vw ea).nm==nl)=pH):ea=.Name nl (vw ea).ag:=eq_of_beq q▸xW h
theorem NU(a:ea=eb)(b:as=cA):Expr.Call ea as [] pos=.Call eb cA [] pos:=D a (D b H)
theorem Vs(h:Vl nl as=pH):nl="tuple"/\as=[.Call (.Name "reversed" (vw (vw (h0 as)).ar).ag) [h0 (vw (h0 as)).aS] [] (vw (h0 as)).ag]:=
 ⟨eq_of_beq (a1 (a1 (a1 (a1 (a1 h))))),(UL (a2 (a1 (a1 (a1 (a1 h)))))).trans (sJ (λe=>[e]) ((P9 (a2 (a1 (a1 (a1 h))))).trans (NU (NT (a2 (a1 (a1 h))) (a2 (a1 h))) (UL (a2 h)))))⟩
theorem SA(o:DZ N g5 A env)(X:xX C N g7){e:zU}(f:Gj C N (Vm as nl) e)(hg:g5.aD nl=pH)(h:as.all (g7.ai g5)=pH):tA C A env (g5.nm.map J) (eval (.Call (.Name nl p1) as [] pos) env) (Vn e (RY (g7.ak g5) as)):=by
 refine zY f λhp hk hs=>?_
 have Os:=a1 (a1 hp);cases eq_of_beq (a2 (a1 hp));unfold Ls at hk;unfold Vn;generalize e.kd=k at hk Os
 match k,Os with
 | 0,_=>exact S.Ζ (o.aO.le (kI _)) (o.aD hg) (eq_of_beq (a1 hk)) (a2 hk) hs (CO X o h pos) JZ (BL (X.all h)) (X.st h) (CC.au hg)
 | 1,_=>exact S.callC o.aO (o.aD hg) (eq_of_beq (a1 (a1 (a1 (a1 hk))))) (a2 (a1 (a1 (a1 hk)))) (a2 (a1 (a1 hk))) (eq_of_beq (a2 (a1 hk))) (eq_of_beq (a2 hk)) hs (CO X o h pos) JZ (BL (X.all h)) (X.st h) (CC.au hg)
theorem OZ(HK:z6 C.aI)(hT:Dx C N g9)(X:xX C N g7)(o:DZ N g5 A env){p:Pos}(h:Uw g9 g7 g5 nl as=pH):tA C A env (g5.nm.map J) (eval (.Call (.Name nl p) as [] pos) env) (callN g9 g7 g5 nl as):=by
 refine NP (Q:=tA C A env (g5.nm.map J) (eval (.Call (.Name nl p) as [] pos) env)) (a2 h) (λq h2=>?_) λø h2=>NP (Q:=tA C A env (g5.nm.map J) (eval (.Call (.Name nl p) as [] pos) env)) (a2 h2) (λq h3=>?_) λø h3=>SA o X (UM HK hT h3) (a1 h) (a1 h2)
 .have hg:=o.aD (a1 h);generalize hz:h0 (vw (h0 as)).aS=z at h2 ⊢;have e:=Vs q;rw[hz]at e;refine D e.2 ?_;rw[e.1]at hg ⊢;exact S.å o.aO hg (HK.blt (by decide +kernel)) (o.aD (a1 h2)) (HK.blt (by decide +kernel)) (X.ak (a2 h2) o) H ((X.aW (a2 h2)).star _ _)
 .refine Cg (Vq (C:=C) o.aO _ (Yo (d:=(.none,qN)) q)) λb1 b2 b3 b4 b5=>?_
  cases as with
  | nil=>exact absurd h3 iw
  | cons e r=>exact S.callN (o.aD (a1 h)) (HK.blt b5) b1 b2 b3 b4 (CO X o (a1 h2) pos) (BL (X.all (a2 (a1 h2)))) ((X.aW (a1 (a1 h2))).star _ _) (CC.au (a1 h))
theorem Xa{a:V (bn×Sem sR)}{k:V (sF ap×Sem sR)}(h:methodCallForm i a k=pH)(hl:(p1.endLine==pos.line)=pH) :
  methodCall ea nl p1 pos env vv i a k=(Eg [vv] (getMethod vv nl (do return (<- importBound ea env).getD pH)) >>=λfx=>callWith pos fx.1 fx.2 a k):=by
 unfold methodCall;refine D h ?_;unfold methodCallPos;exact D hl H
theorem Qj(HK:z6 C.aI)(Z6:C.at_=KJ)(hT:Dx C N g9)(X:xX C N g7)(o:DZ N g5 A env)(h:Uy g9 g7 g5 ea nl p1 pos as=pH):tA C A env (g5.nm.map J) (eval (.Call (.Attribute ea nl p1) as [] pos) env) (Ux g9 g7 g5 ea nl as):=by
 have hs:=a1 h;have hb:=λnl=>(X.aW (a2 (a1 (a1 (a1 hs))))).base (a1 (a1 (a1 (a1 hs)))) nl env
 refine NP (Q:=tA C A env (g5.nm.map J) (eval (.Call (.Attribute ea nl p1) as [] pos) env)) (a2 h) (λq ø=>?_) λø h3=>?_
 .exact KC (W9 (C:=C) o.aO _ (Yo (d:=(qT,qN)) q)) λT' id b=>S.callB b.ag b.ay b.aF b.n b.aN (X.ak (a2 (a1 (a1 (a1 hs)))) o) (CO X o (a2 (a1 (a1 hs))) pos) JZ (BL (X.all (a2 (a1 (a1 hs))))) (X.st (a2 (a1 (a1 hs)))) (hb _) (Y0 (env:=env) (pos:=pos) (X.all (a2 (a1 (a1 hs)))) (gQ (a2 hs))) (a2 (a1 hs))
 .have f:=UM HK hT (d:=Lp) (a1 h3);have hx:=eq_of_beq (a2 h3)
  revert f hx
  generalize (g9.find? (Ss g5 ea as nl)).getD Lp=e1;intro f hx;have hk:=f.ah;have hp:=a1 (a1 f.ag);cases eq_of_beq (a2 hp);unfold Ls at hk;rw[eq_of_beq (a1 hp)]at hk;refine S.callM (o.aO.le (kI _)) (a1 hk) (D Z6 hx) (a2 hk) f.ay (X.ak (a2 (a1 (a1 (a1 hs)))) o) (CO X o (a2 (a1 (a1 hs))) pos) JZ (BL (X.all (a2 (a1 (a1 hs))))) (X.st (a2 (a1 (a1 hs)))) ⟨do return (<- importBound ea env).getD pH,?_⟩;refine(?_:(Au ea e1.nm env (eval ea env) >>=λov=>Ef p1.atName >>=λø=>methodCall ea e1.nm p1 pos env ov (R as+0) _ _)=_);exact D (hb _) (sJ (λk:sR->Sem sR=>eval ea env >>=λov=>Ef p1.atName >>=λø=>k ov) (funext λov=>Xa (Y0 (env:=env) (pos:=pos) (X.all (a2 (a1 (a1 hs)))) (gQ (a2 hs))) (a2 (a1 hs))))
theorem Vt(he:env.scope=cw)(h:(cw.names.lookup nl==J .local)=pH)(b:sE)(f:FS env nl b):b=env.locals:=by
 have:=kd he (eq_of_beq h)
 rcases f with ⟨_,f⟩ | ⟨f,_⟩
 .exact f
 .rw[this]at f;cases f
theorem UN(h:(mf||sr)=pH)(q:mf=Zt):sr=pH:=by rw[q]at h;exact h
theorem SD(hh:A.handled=sD){p:Pos}(hn:(as.map λe=>(vw e).nm).all (λx=>ZD.contains x)=pH)(hF:∀x∈as.map (λe=>(vw e).nm),∀b,FS env x b->Fa b)(hk:as.all (λe=>(vw e).ah==1)=pH)(h3:(R as==2||R as==3)=pH) :
  Ct C A env (ZD.map J) Fa (.Tuple as k p) (cond (R as==2) (qG (D8 ZD (vw (h0 as)).nm) (D8 ZD (vw (h1 as)).nm)) (L.t3 (D8 ZD (vw (h0 as)).nm) (D8 ZD (vw (h1 as)).nm) (D8 ZD (vw (h2 as)).nm))):=by
 cases q:R as==2 with
 | true=>
  have e:=Wu q;generalize h0 as=a at e ⊢;generalize h1 as=b at e ⊢;subst e;have s:Ct C A env (ZD.map J) Fa (.Tuple [.Name (vw a).nm (vw a).ag,.Name (vw b).nm (vw b).ag] k p) (qG (D8 ZD (vw a).nm) (D8 ZD (vw b).nm)):=S.t2 hh (xV (a1 hn)) (xV (a1 (a2 hn))) (hF _ gI) (hF _ (gH _ gI));rw[<- xW (a1 hk),<- xW (a1 (a2 hk))]at s;exact s
 | false=>
  have e:=YZ (UN h3 q);generalize h0 as=a at e ⊢;generalize h1 as=b at e ⊢;generalize h2 as=d at e ⊢;subst e
  have s:Ct C A env (ZD.map J) Fa (.Tuple [.Name (vw a).nm (vw a).ag,.Name (vw b).nm (vw b).ag,.Name (vw d).nm (vw d).ag] k p) (L.t3 (D8 ZD (vw a).nm) (D8 ZD (vw b).nm) (D8 ZD (vw d).nm)):=
   S.t3 hh (xV (a1 hn)) (xV (a1 (a2 hn))) (xV (a1 (a2 (a2 hn)))) (hF _ gI) (hF _ (gH _ gI)) (hF _ (gH _ (gH _ gI)))
  rw[<- xW (a1 hk),<- xW (a1 (a2 hk)),<- xW (a1 (a2 (a2 hk)))]at s;exact s
theorem MX(hh:A.handled=sD)(h:XT ZD ea=pH)(hF:∀x∈NR ea,∀b,FS env x b->Fa b):Ct C A env (ZD.map J) Fa ea (Wt ZD ea):=by
 have hn:=a1 h;refine NP (Q:=Ct C A env (ZD.map J) Fa ea) (a2 h) (λq ø=>?_) λq h2=>?_
 .rw[show NR ea=[(vw ea).nm] by unfold NR;refine D q ?_;rfl]at hn hF;have s:Ct C A env (ZD.map J) Fa (.Name (vw ea).nm (vw ea).ag) (qF (D8 ZD (vw ea).nm)):=S.t1 (xV (a1 hn)) (hF _ gI);rw[<- xW q]at s;exact s
 .rw[show NR ea=(vw ea).aS.map λe=>(vw e).nm by unfold NR;refine D q ?_;rfl]at hn hF;refine xE (isTup (a1 (a1 h2))) λk et=>?_
  have s:=SD (C:=C) (k:=k) (p:=(vw ea).ag) hh hn hF (a2 (a1 h2)) (a2 h2);rw[<- et]at s;exact s
theorem Qk(h:OW ea=pH):ea=.Call (.Name "range" (vw (vw ea).ar).ag) (vw ea).aS [] (vw ea).ag:=(P9 (a1 (a1 h))).trans (NU (NT (a2 (a1 h)) (a2 h)) H)
theorem NV(X:xX C N g7)(h:WX g7 g5 ea=pH)(env:dL)(x:sR):uM ea env x=pure x:=by
 cases q:OW ea with
 | true=>exact D (Qk q) H
 | false=>unfold WX at h;rw[q]at h;exact(X.aW h).fold env x
theorem Ql(HK:z6 C.aI)(X:xX C N g7)(o:DZ N g5 A env)(h:WX g7 g5 ea=pH):Fi C A env (g5.nm.map J) (eval ea env) (WW g7 g5 ea):=by
 refine NP (Q:=Fi C A env (g5.nm.map J) (eval ea env)) h (λq h1=>?_) λq h1=>?_
 .have hs:=a2 (a1 h1);have hl:=a2 h1;refine D (Qk q) (?_:Fi _ _ _ _ _ (cond _ _ _));generalize (vw ea).aS=as at hs hl ⊢;cases q2:R as==1 with
  | true=>
   have e1:=UL q2;generalize h0 as=a at e1;subst e1;exact S.overR1 _ o.aO (o.aD (a1 (a1 h1))) (HK.blt (x:="range") (by decide +kernel)) (X.ak (a1 hs) o) ((X.aW (a1 hs)).star _ _)
  | false=>
   have e1:=YZ (UN hl q2);generalize h0 as=a at e1;generalize Mine.h1 as=b at e1;generalize h2 as=d at e1;subst e1;exact S.æ _ o.aO (o.aD (a1 (a1 h1))) (HK.blt (x:="range") (by decide +kernel)) (X.ak (a1 hs) o) (X.ak (a1 (a2 hs)) o) (X.ak (a1 (a2 (a2 hs))) o) (λea he=>(X.all hs ea he).star _) (BL (X.all (a2 hs)))
 .refine(?_:Fi _ _ _ _ _ (cond _ _ _));cases NQ ea
  .exact S.over _ o.aO (X.ak h1 o)
  .exact S.overD _ o.aO (X.ak h1 o)
theorem NW(o:DZ N g5 A env):∀{xs:V ap},xs.all (λx=>g5.nm.contains x&&g5.sc.names.lookup x==J .cell)=pH->∀(j i:M) (x:ap),(xs.map (D8 g5.nm))[j]?=J i->xs[j]?=J x->(g5.nm.map J)[i]?=J (J x)/\env.kindOf x=J .cell
 | [],_,_,_,_,h,_=>by exact uH h
 | _::_,h,0,_,_,e1,e2=>by obtain rfl:=gv e1;refine tj (gv e2) ?_;exact⟨xV (a1 (a1 h)),o.ah (a2 (a1 h))⟩
 | _::_,h,j+1,i,x,e1,e2=>NW o (a2 h) j i x e1 e2
structure Xb (C:Cx) (A:vy) (env:dL) (nm:V ap) (target iter elt:bm) (ifs:V bm) (sc:ye) (loc ZD:V ap) (ld:V M) (mi:LI) (tL:LT) (mt:LB) (me:LE):Prop where
 af:∀x,uM iter env x=pure x
 ok:Fj sc loc ZD=pH
 aB:R ld=R ZD
 bw:Fi C A env (nm.map J) (eval iter env) mi
 aE:∀(j bw:M) (x:ap),ld[j]?=J bw->ZD[j]?=J x->(nm.map J)[bw]?=J (J x)/\env.kindOf x=J .cell
 aF:∀im,im.scope=KH sc->im.globals=sV->im.builtins=tO->Ct C A im ((loc++ZD).map J) (λb=>b=im.locals) target tL
 aA:∀im,im.scope=KH sc->im.globals=sV->im.builtins=tO->vh C A im ((loc++ZD).map J) ifs mt
 ai:∀im,im.scope=KH sc->im.globals=sV->im.builtins=tO->tA C A im ((loc++ZD).map J) (eval elt im) me
theorem SE(X:xX C N g7)(o:DZ N g5 A env)(h:WY g7 g5 as=pH):vh C A env (g5.nm.map J) as (Vo g7 g5 as):=by
 cases as with
 | nil=>exact vh.none
 | cons a r=>
  have h:(R (a::r)==1&&g7.az g5 a)=pH:=h;cases (UL (a1 h));exact vh.one (X.aP (a2 h) o)
theorem Lx(HK:z6 C.aI)(X:xX C N g7)(o:DZ N g5 A env){g:t4}{gs:V t4}(h:Qe g7 g5 ea (g::gs) cw pos=pH) :
  Xb C A env g5.nm g.target g.iter ea g.ifs cw (NR g.target) (EN cw pos) ((EN cw pos).map (D8 g5.nm)) (WW g7 g5 g.iter) (Wt (NR g.target++EN cw pos) g.target) (Vo g7 (IW g5 g cw pos) g.ifs) (g7.ak (IW g5 g cw pos) ea) where
 af:=NV X (a2 (a1 (a1 (a1 (a1 (a1 (a1 h)))))))  env
 ok:=a2 (a1 (a1 (a1 (a1 (a1 h)))))
 aB:=gy ..
 bw:=Ql HK X o (a2 (a1 (a1 (a1 (a1 (a1 (a1 h)))))))
 aE:=NW o (a2 (a1 (a1 (a1 (a1 h)))))
 aF _ he _ _:=MX o.aO.hd (a2 (a1 (a1 h))) λx hx=>Vt he (i9.mp (a2 (a1 (a1 (a1 h)))) x hx)
 aA _ he _ _:=SE X ⟨he,o.aO⟩ (a2 (a1 h))
 ai _ he _ _:=X.ak (a2 h) ⟨he,o.aO⟩
theorem Qm{g:t4}{gs:V t4}(h:(R (g::gs)==1&&g.is_async==0)=pH):g::gs=[⟨g.target,g.iter,g.ifs,0⟩]:=by
 cases gs with
 | nil=>obtain ⟨a,b,d,e⟩:=g;cases eq_of_beq (a2 h);rfl
 | cons=>exact absurd (a1 h) iw
theorem Vu(HK:z6 C.aI)(X:xX C N g7)(o:DZ N g5 A env){gs:V t4}(h:Qe g7 g5 ea gs cw pos=pH):tA C A env (g5.nm.map J) (eval (.ListComp ea gs cw pos) env) (Uz g7 g5 ea (gs.headD g0) cw pos):=by
 cases gs with
 | nil=>exact absurd h iw
 | cons g gs=>
  have k:=Lx HK X o h;exact D (Qm (a1 (a1 (a1 (a1 (a1 (a1 (a1 h)))))))) (S.comp _ _ k.bw k.ok k.aB k.aE k.aF k.aA k.ai k.af)
theorem Qn(o:DZ N g5 A env){ks:V (sF bm)}(h:UB g5 ks as=pH):tA C A env (g5.nm.map J) (eval (.Dict ks as pos) env) (UA g5 ks):=by
 cases ks with
 | nil=>cases as with
  | nil=>exact S.mkDict
  | cons=>exact absurd h iw
 | cons k r=>
  have h:(_&&_&&_&&_&&_&&_)=pH:=h;cases r with
  | cons=>exact absurd (a1 (a1 (a1 (a1 (a1 h))))) iw
  | nil=>
   cases k with
   | none=>exact absurd (a2 (a1 (a1 (a1 (a1 h))))) iw
   | some k=>
    refine xE (Vh (a2 h)) λk1 e1=>?_
    have s:tA C A env (g5.nm.map J) (eval (.Dict [J (.Name (vw k).nm (vw k).ag)] [.Constant .none k1 (vw (h0 as)).ag] pos) env) _:=S.Δ (p1:=(vw (h0 as)).ag) o.aO (xV (a2 (a1 (a1 h))));rw[<- xW (e:=k) (a2 (a1 (a1 (a1 h)))),<- e1,<- UL (a2 (a1 h))]at s;exact s
theorem Vv{v:db}(h:Lq g9 g7 g5 v=pH):vk v.ex:=Sp (λq=>by cases v<;>first | exact absurd q (jJ H) | exact absurd h iw) (λq=>by cases v<;>first | exact absurd q (jJ H) | exact absurd h iw)
theorem Vw(HK:z6 C.aI)(Z6:C.at_=KJ)(hT:Dx C N g9)(X:xX C N g7)(o:DZ N g5 A env){v:db}(h:Lq g9 g7 g5 v=pH):tA C A env (g5.nm.map J) (eval v.ex env) (UC g9 g7 g5 v):=by
 cases v with
 | name x p=>exact Qi HK o h
 | attr e x p=>
  exact zY (HK.at_ (a1 (a1 h))) λi1 i2 ø=>S.attr i2 (by exact D Z6 i1) (X.ak (a2 h) o) ((X.aW (a2 h)).base (a2 (a1 h)) _ _)
 | sub e i p=>exact Sz X o h
 | call f as p=>
  refine NP (Q:=tA C A env (g5.nm.map J) (eval (.Call f as [] p) env)) h (λq h=>?_) λø h=>?_
  .have s:=OZ HK hT X o (p:=(vw f).ag) (pos:=p) h;rw[<- xW q]at s;exact s
  .have s:=Qj HK Z6 hT X o (a2 h);rw[<- P8 (a1 h)]at s;exact s
 | tup es k p=>exact S.mkTup (CO X o h _)
 | lc e gs sc p=>exact Vu HK X o h
 | const v k p=>exact OY h
 | un op a p=>have h2:=a2 h;cases eq_of_beq (a1 h);exact S.neg (X.ak h2 o)
 | bin op a b p=>exact S.bin (Sx o.aO (a1 (a1 h))) (X.ak (a2 (a1 h)) o) (X.ak (a2 h) o)
 | bool op es p=>
  have hs:=a2 h;have e:=Wu (a1 h);generalize h0 es=a at e ⊢;generalize h1 es=b at e ⊢;subst e;cases op
  .exact S.andE (X.ak (a1 hs) o) (X.ak (a1 (a2 hs)) o)
  .exact S.Ň (X.ak (a1 hs) o) (X.ak (a1 (a2 hs)) o)
 | cmp a ops bs p=>
  have s:=S.Ο (pos:=p) (NS o.aO (a2 (a1 (a1 h)))) (X.ak (a2 (a1 h)) o) (X.ak (a2 h) o) ((X.aW (a2 h)).mark _);rw[<- W7 (a1 (a1 (a1 (a1 h)))),<- UL (a2 (a1 (a1 (a1 h))))]at s;exact s
 | ife t a b p=>exact S.ife (X.aP (a1 (a1 h)) o) (X.ak (a2 (a1 h)) o) (X.ak (a2 h) o)
 | list es p=>exact S.mkList (CO X o h _)
 | dict ks vs p=>exact Qn o h
 | _=>exact absurd h iw
theorem MY(X:xX C N g7)(o:DZ N g5 A env){op:BoolOp}:∀{es:V bm},es.all (g7.az g5)=pH->wA C A env (g5.nm.map J) (Bv op es env) (Ym (g7.aP g5) op es)
 | [],_=>by cases op;exact S.tt;exact S.ff
 | _::_,h=>by cases op;exact S.ahd (X.aP (a1 h) o) (MY X o (a2 h));exact S.orc (X.aP (a1 h) o) (MY X o (a2 h))
theorem Qo(X:xX C N g7)(o:DZ N g5 A env){ops:V A0}(h:UE g7 g5 ea ops as=pH):wA C A env (g5.nm.map J) (uD (.Compare ea ops as pos) env ej) (UD g7 g5 ea ops as):=by
 refine NP (Q:=wA C A env (g5.nm.map J) (uD (.Compare ea ops as pos) env ej)) (a2 h) (λø h2=>?_) λø h2=>?_
 .have e:=Wu (a2 (a1 h2));generalize h0 as=x at e ⊢;generalize h1 as=y at e ⊢;subst e;cases eq_of_beq (a1 (a1 h2));exact S.chainLt (X.ak (a1 h) o) (X.ak (a1 (a2 h2)) o) (X.ak (a1 (a2 (a2 h2))) o) ((X.aW (a1 (a2 (a2 h2)))).mark _)
 .refine D (UL (a2 (a1 h2))) ?_;have e:=W7 (a1 (a1 h2));have h3:=a2 h2;generalize c0 ops=op at e h3 ⊢;refine D e ?_;cases q:op==.Is with
  | true=>
   rw[q]at h3;cases eq_of_beq q;refine xE (Vh h3) λk e=>?_
   have s:wA C A env (g5.nm.map J) (uD (.Compare ea [.Is] [.Constant .none k (vw (h0 as)).ag] pos) env ej) _:=S.isNone (X.ak (a1 h) o);rw[<- e]at s;exact s
  | false=>
   cases q2:op==.IsNot with
   | true=>
    rw[q,q2]at h3;cases eq_of_beq q2;refine xE (Vh h3) λk e=>?_
    have s:wA C A env (g5.nm.map J) (uD (.Compare ea [.IsNot] [.Constant .none k (vw (h0 as)).ag] pos) env ej) _:=S.isNotNone (X.ak (a1 h) o);rw[<- e]at s;exact s
   | false=>
    rw[q,q2]at h3;exact S.cmp (NS o.aO (a1 h3)) (X.ak (a1 h) o) (X.ak (a2 h3) o) ((X.aW (a2 h3)).mark _)
theorem Vy(HK:z6 C.aI)(X:xX C N g7)(o:DZ N g5 A env){v:db}(h:MU g7 g5 v=pH):wA C A env (g5.nm.map J) (uD v.ex env (eval v.ex env)) (UH g7 g5 v):=by
 cases v with
 | name x p=>exact S.tv (X.ak h o) H
 | attr e x p=>exact S.tv (X.ak h o) H
 | sub e i p=>exact S.tv (X.ak h o) H
 | call f as p=>
  refine NP (Q:=wA C A env (g5.nm.map J) (uD (.Call f as [] p) env (eval (.Call f as [] p) env))) h (λq h=>?_) λø h=>S.tv (X.ak h o) H
  have s:=S.isTup (p:=(vw f).ag) (p1:=(vw (h1 as)).ag) (p2:=default) (pos:=p) (whole:=default) (o.aD (a1 (a1 h))) (HK.blt (by decide +kernel)) (o.aD (a2 (a1 h))) (HK.blt (by decide +kernel)) (X.ak (a2 h) o) ((X.aW (a2 h)).star _ _) H;rw[<- NT (a1 (a1 (a1 (a1 q)))) (a2 (a1 (a1 (a1 q)))),<- NT (a2 (a1 q)) (a2 q),<- Wu (a2 (a1 (a1 q)))]at s;exact s
 | un op a p=>have h2:=a2 h;cases eq_of_beq (a1 h);exact S.not (X.aP h2 o)
 | bool op es p=>exact S.T_ (MY X o h)
 | cmp a ops bs p=>exact Qo X o h
 | _=>exact absurd h iw
theorem Qp{P:bm->Prop}(h:∀v,vw ea=v->P v.ex)(h0:vw ea=.other->P ea):P ea:=by
 rcases Us ea with q | q
 .exact h0 q
 .have:=h _ H;rw[<- q]at this;exact this
theorem Yq{f:db->bn}{v:db}{P:Prop}(h:f v=pH)(q:v=.other)(h0:f .other=Zt):P:=by rw[q,h0]at h;exact ft h
theorem FR(HK:z6 C.aI)(Z6:C.at_=KJ)(hT:Dx C N g9):∀n,xX C N (Ms g9 n)
 | 0=>⟨λh=>absurd h iw,λh=>absurd h iw,λh=>absurd h iw⟩
 | n+1=>⟨λ{g5 e} h=>Qp (P:=vk) (λv q=>by subst q;exact Vv h) λq=>Yq (f:=Lq g9 (Ms g9 n) g5) h q H,
  λ{g5 e A env} h o=>Qp (P:=λe'=>tA C A env (g5.nm.map J) (eval e' env) ((Ms g9 (n+1)).ak g5 e)) (λv q=>by subst q;exact Vw HK Z6 hT (FR HK Z6 hT n) o h) λq=>Yq (f:=Lq g9 (Ms g9 n) g5) h q H,
  λ{g5 e A env} h o=>Qp (P:=λe'=>wA C A env (g5.nm.map J) (uD e' env (eval e' env)) ((Ms g9 (n+1)).aP g5 e)) (λv q=>by subst q;exact Vy HK (FR HK Z6 hT n) o h) λq=>Yq (f:=MU (Ms g9 n) g5) h q H⟩
theorem UO(h:(!((vw ea).ah==k))=pH):(vw ea).ah≠k:=λq=>by rw[q,tJ]at h;exact ft h
theorem Qq(h:((vw ea).ah==k)=Zt):(vw ea).ah≠k:=λq=>by rw[q,tJ]at h;exact tf h
theorem Yr(h:((vw ea).ah==6)=pH):∃elt gs,ea=.ListComp elt gs (vw ea).sc (vw ea).ag:=by
 refine xA (Lo h (by decide)) λq h=>?_
 generalize vw ea=v at q h
 cases v<;>first
  | exact(KD _ _ q)
  | exact absurd h (jJ rfl)
theorem Xc(h:((vw ea).ah==3)=pH):ea=.Subscript (vw ea).ar ((vw ea).o1.getD e0) (vw ea).ag:=by
 refine xA (Lo h (by decide)) λq h=>?_
 generalize vw ea=v at q h
 cases v<;>first
  | exact q
  | exact absurd h (jJ rfl)
theorem Vz:R (KJ a)<=500:=by
 unfold KJ;cases h:Ws.lookup a with
 | none=>exact gE _
 | some ys=>exact gQ (i9.mp (show(Ws.all λx=>Nat.ble (R x.2) 500)=pH by decide +kernel) _ (MV h))
noncomputable def Wv(env:dL)(l:M)(e:bm):sF ap:=wo.match_8 (λø=>sF ap) e (λid pos=>if env.kindOf id==J tM.local&&pos.line==l then J id else sD) λø=>sD
theorem SF(he:env.scope=cw)(hk:(cw.kind==.function)=pH)(hx:(cw.names.lookup nl==J .local)=pH)(hy:(cw.names.lookup name==J .local)=pH)(g1:vk ea)(g2:vk eb)
  (hb:(p1.line==p2.line&&!(name==nl)&&!([ea,eb].all (foldedForSure 8))&&!([ea,eb].all (constantsAlone 8)))=pH):wo [.Tuple [.Name nl p1,.Name name p2] i tpos] (.Tuple [ea,eb] t pos) env=pure (J [nl,name]):=by
 have hbk:env.blockKind=.function:=by unfold Env.blockKind;exact D he (D (eq_of_beq hk) H)
 have hd:[nl,name].eraseDups=[nl,name]:=by
  refine(?_:oR (·==·) [name] [nl]=_);unfold oR;exact D (show [nl].any (λb=>name==b)=Zt from (Bool.or_false _).trans ((j6 _).mp (a2 (a1 (a1 hb))):(name==nl)=Zt)) H
 refine(sH (λp2=>?_)).trans ((sH (λp2=>?_)).trans ?_)
 .rw[hbk]at p2;exact ft p2
 .have e:(Yj ea||(Yj eb||false))=pH:=p2;rw[g1.ns,g2.ns]at e;exact ft e
 have fx:Wv env p1.line (.Name nl p1)=J nl:=sI (iL.mpr ⟨uP.mpr (kd he (eq_of_beq hx)),tJ _⟩);have fy:Wv env p1.line (.Name name p2)=J name:=sI (iL.mpr ⟨uP.mpr (kd he (eq_of_beq hy)),uP.mpr (eq_of_beq (a1 (a1 (a1 hb)))).symm⟩);have hn:[kh nl p1,kh name p2].filterMap (Wv env p1.line)=[nl,name]:=D (oS fx) (D (oS fy) H);refine(sH (λq3=>?_)).trans ((sH (by exact D ((j6 _).mp (a2 (a1 hb))) iw)).trans ((sH (by exact D ((j6 _).mp (a2 hb)) iw)).trans (sJ (λl=>pure (J l)) hn)));have q3:(R ([kh nl p1,kh name p2].filterMap (Wv env p1.line)) != 2||R ([kh nl p1,kh name p2].filterMap (Wv env p1.line)).eraseDups != R ([kh nl p1,kh name p2].filterMap (Wv env p1.line)))=pH:=q3;rw[hn,hd]at q3;exact ft q3
theorem VA(X:xX C N g7)(o:DZ N g5 A env){k0:M}{tp p:Pos}(h:UI g5 as cA=pH)(hv:cA.all (g7.ai g5)=pH)(hs:tA C A env (g5.nm.map J) (eval (.Tuple cA i p) env) e) :
  v8 C A env (g5.nm.map J) (exec (.Assign [.Tuple as k0 tp] (.Tuple cA i p) pos) env) (rA (L.Ě (D8 g5.nm (vw (h0 as)).nm) (D8 g5.nm (vw (h1 as)).nm)) e):=by
 have hl:=a2 h;have hk:=a2 (a1 h);have ha:=a2 (a1 (a1 h));have ev:=Wu (a2 (a1 (a1 (a1 h))));have ee:=Wu (a1 (a1 (a1 (a1 h))));clear h;generalize h0 as=a at ee hl ⊢;generalize h1 as=b at ee hl ⊢;generalize h0 cA=v1 at ev hl;generalize h1 cA=v2 at ev hl;subst ee ev;have s:=S.U! (p:=(vw a).ag) (q:=(vw b).ag) (tpos:=tp) (pos:=pos) (k0:=k0) o.aO.hd (xV (a2 (a1 (a1 ha)))) (xV (a2 (a1 (a1 (a2 ha))))) hs H (SF o.sc hk (a2 (a1 ha)) (a2 (a1 (a2 ha))) (X.aW (a1 hv)) (X.aW (a1 (a2 hv))) hl);rw[<- xW (a1 (a1 (a1 ha))),<- xW (a1 (a1 (a1 (a2 ha))))]at s;exact s
theorem SG(HK:z6 C.aI)(Z6:C.at_=KJ)(hT:Dx C N g9)(o:DZ N g5 A env)(h:W3 (Ms g9 (i+1)) g5 ea eb=pH):v8 C A env (g5.nm.map J) (exec (.Assign [ea] eb pos) env) (W2 (Ms g9 (i+1)) g5 ea eb):=by
 have X:=FR HK Z6 hT (i+1);have hv:=a1 h;refine NP (Q:=v8 C A env (g5.nm.map J) (exec (.Assign [ea] eb pos) env)) (a2 h) (λq h=>?_) λø h=>NP (Q:=v8 C A env (g5.nm.map J) (exec (.Assign [ea] eb pos) env)) h (λq h=>?_) λø h=>NP (Q:=v8 C A env (g5.nm.map J) (exec (.Assign [ea] eb pos) env)) h (λq h=>?_) λø h=>?_
 .have ix:=xV (a1 h);have hl:=a2 h;refine D (xW q) ?_;generalize (vw ea).nm=x at ix hl ⊢;cases q6:(vw eb).ah==6 with
  | false=>exact S.asg ix (X.ak hv o) ((X.aW hv).swap (Qq q6) _ _ _)
  | true=>
   unfold YW at hl;rw[q6]at hl;refine KC (Yr q6) λelt gs e=>?_
   generalize (vw eb).sc=sc at hl e;generalize (vw eb).ag=p2 at hl e;subst e;cases q7:g5.sc.names.lookup x==J .cell with
   | true=>exact S.asg ix (X.ak hv o) (MM (o.ah q7))
   | false=>
    rw[q7]at hl;cases gs with
    | nil=>exact absurd hv iw
    | cons g gs=>
     have k:=Lx HK (FR HK Z6 hT i) o hv;have s:=S.T? (spos:=pos) _ _ ix (K7 o.sc (eq_of_beq (a1 (a1 hl))) (eq_of_beq (a2 (a1 hl))) (a2 hl)) k.bw k.ok k.aB k.aE k.aF k.aA k.ai k.af;rw[<- (Qm (a1 (a1 (a1 (a1 (a1 (a1 (a1 (show(_&&_)=pH from hv)))))))))]at s;exact s
 .refine zY (HK.at_ (a1 h)) λi1 ø i3=>?_
  have s:=S.ZG (p:=(vw ea).ag) (pos:=pos) _ o.aO i3 (D Z6 i1) (D Z6 Vz) (X.ak (a2 h) o) (X.ak hv o) ((X.aW hv).X! _ _ _ _ _);rw[<- P8 q]at s;exact s
 .refine xE (isTup q) λk0 et=>?_
  cases q5:(vw eb).ah==5 with
  | true=>
   rw[q5]at h;refine xE (isTup q5) λk1 ev=>?_
   have hs:=X.ak hv o (env:=env) (A:=A);rw[ev]at hs hv;have s:=VA (FR HK Z6 hT i) o (k0:=k0) (tp:=(vw ea).ag) (pos:=pos) h hv hs;rw[<- et,<- ev]at s;exact s
  | false=>
   rw[q5]at h;exact S.asgT et (MX o.aO.hd (a1 h) λø ø ø f=>f.fa) (X.ak hv o) ((X.aW hv).swap (UO (a2 h)) (J (.Tuple (vw ea).aS k0 (vw ea).ag)) pos.line env) ((X.aW hv).two (Qq q5) _ _ _ _)
 .have s:=S.setI (p:=(vw ea).ag) (pos:=pos) _ o.aO (X.ak (a2 (a1 h)) o) (X.ak (a2 h) o) (X.ak hv o) ((X.aW hv).W_ _ _ _ _ _);rw[<- Xc (a1 (a1 h))]at s;exact s
noncomputable def SH(C:Cx)(N:M)(sC:Sn):Prop:=∀{g5 s A env},sC.ar g5 s=pH->DZ N g5 A env->Ae env=Zt->v8 C A env (g5.nm.map J) (exec s env) (sC.bp g5 s)
theorem C5{sC:Sn}(bv:SH C N sC)(o:DZ N g5 A env)(hi:Ae env=Zt):∀{ss:V Stmt},ss.all (sC.ar g5)=pH->v8 C A env (g5.nm.map J) (BY ss env) (Lr (sC.bp g5) ss)
 | [],_=>S.done
 | _::_,h=>S.seq (bv (a1 h) o hi) (C5 bv o hi (a2 h))
theorem VB(HK:z6 C.aI)(Z6:C.at_=KJ)(hT:Dx C N g9){sC:Sn}(bv:SH C N sC):SH C N ⟨YX (Ms g9 (i+1)) sC,YY (Ms g9 (i+1)) sC⟩:=λ{c s A env} h o hi=>by
 have X:=FR HK Z6 hT (i+1);cases s with
 | Assign ts v pos=>
  have h:(_&&_)=pH:=h;exact D (UL (a1 h)) (SG HK Z6 hT o (a2 h))
 | Expr e pos=>exact S.exp (X.ak (a1 h) o) hi ((X.aW (a1 h)).swap (UO (a2 h)) _ _ _)
 | Return e pos=>
  cases e with
  | none=>exact absurd h iw
  | some e=>exact S.ret (X.ak h o)
 | If t b e pos=>exact S.ite (X.aP (a1 (a1 h)) o) (C5 bv o hi (a2 (a1 h))) (C5 bv o hi (a2 h))
 | While t b e pos=>cases ny.mp (a2 h);exact S.whl (X.aP (a1 (a1 h)) o) (C5 bv o hi (a2 (a1 h)))
 | For t it b e pos=>
  have h:(_&&_&&_&&_)=pH:=h;cases ny.mp (a2 h);have s:=S.forI (pos:=pos) (Ql HK X o (a1 (a1 (a1 h)))) (MX o.aO.hd (a2 (a1 (a1 h))) λø ø ø f=>f.fa) (C5 bv o hi (a2 (a1 h))) (NV X (a1 (a1 (a1 h))) env);refine(?_:v8 _ _ _ _ _ (cond _ _ _));cases NQ it&&!OW it
  .exact s
  .exact S.thawed s
 | Break pos=>exact S.brk
 | Continue pos=>exact S.cont
 | _=>exact S.never
theorem Qr(HK:z6 C.aI)(Z6:C.at_=KJ)(hT:Dx C N g9):∀i,SH C N (W4 g9 i)
 | 0=>λø ø ø=>S.never
 | i+1=>VB HK Z6 hT (Qr HK Z6 hT i)
theorem Qs(HK:z6 C.aI)(Z6:C.at_=KJ)(hT:Dx C N g9){x:zU}(hO:x.O g9=pH)(hW:x.bz g9=x.aP)(hf:Sl C.aI x.ae x.st x.bh)(SL:R x.ba=x.na+R x.UV)(ZQ:El (Af x.st) ((x.ba++x.ls).map J)=pH)
  (à:∀fd:A4,fd.params=BA x.st->fd.defaults=x.bh->fd.kwdefaults=.none->∀(s:s8) (vs:V sR),(∀b o,C.h0.get? b=J o->s.heap.get? b=J o)->R vs=x.na->∃IO,sY s.heap x.UV IO/\BindsTo s fd ⟨vs,[]⟩ (x.ba.zip (vs++IO))):B7 C (N+2) (.ref x.ae) x.bu:=
 B7.of x.ba x.ls hf SL ZQ à λø ø bi he hi=>hW▸C5 (Qr HK Z6 hT 16) ⟨he,bi⟩ hi hO
theorem Ys:(AN.mapIdx λi x=>x.bz (AN.take i))=AN.map (·.aP):=by kernel_rfl
theorem Yt:(AN.zipIdx.all λx=>x.1.O (AN.take x.2))=pH:=by kernel_rfl
theorem Xd:(AN.all λx=>R x.ba==x.na+R x.UV&&El (Af x.st) ((x.ba++x.ls).map J))=pH:=by kernel_rfl
noncomputable def O5(x:zU):bn:=match x.bh with
 | .none=>pH
 | _=>Zt
theorem Yu:((AN.filter O5).map λx nm qn b sc g cl dc pm an cd ct bl (v:M->sR)=>(x.bh,x.UV,bindArgs ⟨nm,qn,BA x.st,b,sc,g,cl,.none,.none,dc,pm,an,cd,ct,bl⟩ ⟨(gN x.na).map v,[]⟩))=(AN.filter O5).map λx ø ø ø ø ø ø ø ø ø ø ø ø v=>(.none,[],pure (x.ba.zip ((gN x.na).map v))):=by kernel_rfl
noncomputable def J0(C:Cx)(x:zU):Prop:=∀fd:A4,fd.params=BA x.st->fd.defaults=x.bh->fd.kwdefaults=.none->∀(s:s8) (vs:V sR),(∀b o,C.h0.get? b=J o->s.heap.get? b=J o)->R vs=x.na->∃IO,sY s.heap x.UV IO/\BindsTo s fd ⟨vs,[]⟩ (x.ba.zip (vs++IO))
theorem IX{α:Type}{l:V α}(h:R l=t)(d:α):l=(gN t).map λi=>l.getD i d:=by
 subst h;refine jj λi=>D (gG) ?_
 rcases iZ i (R l) with h | h
 .refine D (kJ h) ?_;refine(?_:_=J (l.getD i d));refine D (iJ) (D (gM h) ?_);rfl
 .refine D (iz h) (D (iz (D iq h)) ?_);rfl
theorem SI{x:zU}(hx:x∈AN)(h:O5 x=pH):J0 C x:=λfd hp hd hk s vs ø hl=>by
 have e:=List.map_inj_left.mp Yu x (iH.mpr ⟨hx,h⟩);obtain ⟨nm,qn,pr,b,sc,g,cl,df,kw,dc,pm,an,cd,ct,bl⟩:=fd;have e:=vE (vE (vE (vE (vE (vE (vE (vE (vE (vE (vE (vE (vE e nm) qn) b) sc) g) cl) dc) pm) an) cd) ct) bl) λi=>vs.getD i .none
 rw[<- IX hl]at e;subst hp;subst hk;cases hd.trans (sJ gS e:x.bh=.none);exact D (sJ (·.2.1) e:x.UV=[]) (ti ([]) trivial (by exact D (gY _) (.of_eq (sJ (·.2.2) e))))
noncomputable def Y1(fd:A4)(vs:V sR):{k:sF (uX sR)->Sem (V (ap×sR)) // bindArgs fd ⟨vs,[]⟩ = (seqItems? fd.defaults >>=k)}:=⟨_,H⟩
theorem EO{x:zU}(IO:V sR)(hT:C.aI.lookup a=J ⟨.type "tuple",sD,.seq ws t,#[]⟩)(hv:x.bh=.ref a)(hr:∀h,sY h x.UV IO)
  (hb:∀nm qn b sc g cl dc pm an cd ct bl (v:M->sR),(Y1 ⟨nm,qn,BA x.st,b,sc,g,cl,.ref a,.none,dc,pm,an,cd,ct,bl⟩ ((gN x.na).map v)).1 (J ws)=pure (x.ba.zip ((gN x.na).map v++IO))):J0 C x:=λfd hp hd hk s vs kp hl=>by
 obtain ⟨nm,qn,pr,b,sc,g,cl,df,kw,dc,pm,an,cd,ct,bl⟩:=fd;subst hp;subst hk;cases hd.trans hv;have e2:=hb nm qn b sc g cl dc pm an cd ct bl λi=>vs.getD i .none
 rw[<- IX hl]at e2;exact(ti IO (hr _) (.of_defaults H (kp _ _ (C.wf _ _ hT)) H (Y1 _ _).2 e2))
theorem Qt(HK:z6 C.aI){x:zU}(hx:x∈AN):J0 C x:=by
 cases h:O5 x with
 | true=>exact SI hx h
 | false=>
  have key:∀x∈AN.filter (!O5 ·),J0 C x:=by
   refine Nz HK.d77 λta tb tc tn Ť=>xE HK.Ν λn1 Ś=>xE HK.Μ λn2 ř=>xE HK.Κ λn3 Ī=>?_
   exact iY.mpr ⟨EO [.none,.int 0 tb,.int 0 tc] Ť H (λø=>(AV H ⟨_,H⟩ ⟨_,H⟩ trivial)) λø ø ø ø ø ø ø ø ø ø ø ø ø=>by kernel_rfl,iY.mpr ⟨EO [.none] Ś H (λø=>⟨H,trivial⟩) λø ø ø ø ø ø ø ø ø ø ø ø ø=>by kernel_rfl,
    iY.mpr ⟨EO [] ř H (λø=>trivial) λø ø ø ø ø ø ø ø ø ø ø ø ø=>by kernel_rfl,iY.mpr ⟨EO [] Ī H (λø=>trivial) λø ø ø ø ø ø ø ø ø ø ø ø ø=>by kernel_rfl,
    iY.mpr ⟨EO [.none] Ī H (λø=>⟨H,trivial⟩) λø ø ø ø ø ø ø ø ø ø ø ø ø=>by kernel_rfl,λø h=>absurd h jY⟩⟩⟩⟩⟩
  exact key x (iH.mpr ⟨hx,by exact D h H⟩ : x∈AN.filter (!O5 ·))
theorem Y2(HK:z6 C.aI)(Z6:C.at_=KJ):∀n,n<=R AN->Dx C (2*n) (AN.take n)
 | 0,_=>λø h=>absurd h jY
 | n+1,hn=>λx hx=>by
  have T:=Y2 HK Z6 n (Nat.le_of_succ_le hn);rw[List.take_add_one,gP]at hx
  rcases hx with hx | hx
  .exact⟨(T x hx).1,λA as vs st s K bi=>(T x hx).2 A as vs st s K (bi.le (jR _ 2))⟩
  .have hx:AN[n]?=J x:=sF.mem_toList.mp hx;have hm:=gz hx;refine⟨hm,Qs HK Z6 T (i9.mp Yt (x,n) (mM.mpr hx)) ?_ (HK.af x hm) (eq_of_beq (a1 (i9.mp Xd x hm))) (a2 (i9.mp Xd x hm)) (Qt HK hm)⟩;have e:=sJ (·[n]?) Ys;rw[kK,gG,hx]at e;exact gv e
theorem SJ(HK:z6 C.aI)(Z6:C.at_=KJ):B7 C 160 (.ref 829) NO:=(Y2 HK Z6 80 (by decide +kernel) W5 (gz (i:=79) (by kernel_rfl))).2
theorem C6(f:M->sF LV)(inv:M->uZ->LH->Prop)(h0:inv 0 ρ s)(hf:∀i,f i=sD<->N<=i)(hx:∀i ρ s,i<=N->inv i ρ s->nx i s=J (f i))
  (step:∀i v ρ s (K':KS),f i=J v->inv i ρ s->(∀fl em E,ue (inv (i+1)) Kb fl em E->K' fl em E)->∃jp,tg v ρ=J jp/\bb jp s K')
  (fin:∀ρ s,inv N ρ s->Kb .next ρ s):∃n,qH nx tg bb n 0 ρ s Kb:=by
 suffices ci:∀n i ρ s,i<=N->N - i<n->inv i ρ s->qH nx tg bb n i ρ s Kb from ⟨N+1,ci (N+1) 0 ρ s (gE _) (tD [0,1] 0x425010252802400442 H (gO (tY [0] 134251649 H))) h0⟩
 intro n
 induction n with
 | zero=>intro i ρ s _ h _;exact(PO [0] 1180705 H h).elim
 | succ n ih=>
  intro i ρ s hi hn hv;have hh:=hx i ρ s hi hv;cases NE:f i with
  | none=>
   rw[NE]at hh;have:i=N:=gZ hi ((hf i).mp NE);obtain rfl:=this.symm;exact .inl ⟨hh,fin ρ s hv⟩
  | some v=>
   rw[NE]at hh;have ZY:i<N:=nk λh=>by rw[(hf i).mpr h]at NE;exact uH NE
   refine s9 (step i v ρ s (ue (λem E=>qH nx tg bb n (i+1) em E Kb) Kb) NE hv (λfl em E hl=>by
    cases fl with
    | next=>exact ih _ _ _ ZY (Mq [1] 0x14812a0e600468004e020022004a030424 H hn (gO (tD [1] 0x280240048520422 H ZY)) (gO (tD [] 0x52048520422 H ZY))) hl
    | cont=>exact ih _ _ _ ZY (Mq [1] 0x14812a0e600468004e020022004a030424 H hn (gO (tD [1] 0x280240048520422 H ZY)) (gO (tD [] 0x52048520422 H ZY))) hl
    | brk=>exact hl
    | ret v=>exact hl)) λjp h1 h2=>?_
   exact .inr (tU v jp hh h1 h2)
theorem Ly(inv:M->uZ->LH->Prop)(h0:inv 0 ρ s)(hl:∀i ρ s,inv i ρ s->s l=J (f1 vs))
  (step:∀i v ρ s (K':KS),vs[i]?=J v->inv i ρ s->(∀fl em E,ue (inv (i+1)) Kb fl em E->K' fl em E)->bb (ρ.set k (J v)) s K')
  (fin:∀ρ s,inv (R vs) ρ s->Kb .next ρ s):∃n,qH (qD l) (qF k) bb n 0 ρ s Kb:=
 C6 (λi=>vs[i]?) inv h0 (λi=>jg) (λi ρ s ø hv=>by unfold qD;exact D (hl i ρ s hv) H) (λi v ρ s K' hv hi hK=>(ti _ H (step i v ρ s K' hv hi hK))) fin
theorem IY(inv:M->uZ->LH->Prop)(h0:inv 0 ρ s)(hl:∀i ρ s,inv i ρ s->s l=J (f1 vs))
  (step:∀i v ρ s (K':KS),vs[i]?=J v->inv i ρ s->(∀fl em E,ue (inv (i+1)) Kb fl em E->K' fl em E)->∃x y,v=f2 [x,y]/\bb ((ρ.set k (J x)).set j (J y)) s K')
  (fin:∀ρ s,inv (R vs) ρ s->Kb .next ρ s):∃n,qH (qD l) (qG k j) bb n 0 ρ s Kb:=
 C6 (λi=>vs[i]?) inv h0 (λi=>jg) (λi ρ s ø hv=>by unfold qD;exact D (hl i ρ s hv) H) (λi v ρ s K' hv hi hK=>by (refine vX (step i v ρ s K' hv hi hK) λx y e9 h=>?_;refine D e9 ?_);exact(ti _ H h)) fin
theorem SK(inv:M->uZ->LH->Prop)(h0:inv 0 ρ s)
  (step:∀i v ρ s (K':KS),vs[i]?=J v->inv i ρ s->(∀fl em E,ue (inv (i+1)) Kb fl em E->K' fl em E)->bb (ρ.set k (J v)) s K')
  (fin:∀ρ s,inv (R vs) ρ s->Kb .next ρ s):∃n,qH (L.ë vs) (qF k) bb n 0 ρ s Kb:=
 C6 (λi=>vs[i]?) inv h0 (λi=>jg) (λi ρ s ø hv=>rfl) (λi v ρ s K' hv hi hK=>(ti _ H (step i v ρ s K' hv hi hK))) fin
theorem UP{α:Type}{a:α}:(if i<t then J a else sD)=sD<->t<=i:=ite_eq_right_iff.trans ⟨λh=>jd λq=>E9 (h q),λh q=>absurd q (nq h)⟩
theorem FT(inv:M->uZ->LH->Prop)(h0:inv 0 ρ s)
  (step:∀i ρ s (K':KS),i<t->inv i ρ s->(∀fl em E,ue (inv (i+1)) Kb fl em E->K' fl em E)->bb (ρ.set k (J (f0 i))) s K')
  (fin:∀ρ s,inv t ρ s->Kb .next ρ s):∃m,qH (qE 0 1 t) (qF k) bb m 0 ρ s Kb:=
 C6 (N:=t) (λi=>if i<t then J (f0 i) else sD) inv h0 (λi=>UP) (λi ρ s ø hv=>by unfold qE;simp) (λi v ρ s K' hv hi hK=>by
  split at hv
  .rename_i h;refine tj (gv hv) ?_;exact(ti _ H (step i ρ s K' h hi hK))
  .exact uH hv) fin
theorem Qu(inv:M->uZ->LH->Prop)(h0:inv 0 ρ s)
  (step:∀i ρ s (K':KS),i<=t->inv i ρ s->(∀fl em E,ue (inv (i+1)) Kb fl em E->K' fl em E)->bb (ρ.set k (J (f0 ((t - i:M):al)))) s K')
  (fin:∀ρ s,inv (t+1) ρ s->Kb .next ρ s):∃m,qH (qE t (-1) (t+1)) (qF k) bb m 0 ρ s Kb:=
 C6 (N:=t+1) (λi=>if i<t+1 then J (f0 ((t - i:M):al)) else sD) inv h0 (λi=>UP) (λi ρ s ø hv=>by
  unfold qE
  by_cases h:i<t+1
  .simp only[h,Aa];congr 3;exact D (Int.mul_neg_one _) (Int.ofNat_sub (mv h)).symm
  .simp only[h,if_false]) (λi v ρ s K' hv hi hK=>by
  split at hv
  .rename_i h;refine tj (gv hv) ?_;exact(ti _ H (step i ρ s K' (tD [1] 0x29024004a020422 H h) hi hK))
  .exact uH hv) fin
theorem Qv(inv:M->uZ->LH->Prop)(h0:inv 0 ρ s)(hl:∀i ρ s,inv i ρ s->s d=J (Da od Zy))
  (step:∀i v ρ s (K':KS),Zy[i]?=J v->inv i ρ s->(∀fl em E,ue (inv (i+1)) Kb fl em E->K' fl em E)->bb (ρ.set k (J v.1)) s K')
  (fin:∀ρ s,inv (R Zy) ρ s->Kb .next ρ s):∃n,qH (L.Ê d od Zy) (qF k) bb n 0 ρ s Kb:=
 C6 (N:=R Zy) (λi=>Zy[i]?.map (·.1)) inv h0 (λi=>AU nI jg) (λi ρ s ø hv=>by unfold L.Ê;exact D (sI (hl i ρ s hv)) H) (λi v ρ s K' hv hi hK=>by
  exact vp v (gR.mp hv) λkv h1=>(ti _ H (step i kv ρ s K' h1 hi hK))) fin
noncomputable def Qw(t:LT)(b:LS)(ρ:uZ)(K:KS):Nx->LH->Prop:=λnx s1=>∃n,qH nx t b n 0 ρ s1 K
theorem dE{mi:LI}(h:mi ρ s (Qw tg bb ρ Kb)):qI mi tg bb ρ s Kb:=h
theorem cX{KI:Nx->LH->Prop}(h:e ρ s (IV KI)):qJ e ρ s KI:=h
theorem Gk{KI:Nx->LH->Prop}(h:s l=J (f1 vs))(k:KI (qD l) s):IV KI (Y l) s:=.inr (tU _ _ H h k)
theorem UQ{KI:Nx->LH->Prop}(k:KI (L.ë vs) s):IV KI (f2 vs) s:=.inl (ti _ H k)
theorem fv{KI:Nx->LH->Prop}(h:e ρ s λx s1=>∃n:al,x=f0 n/\-(2 ^ 40)<=n/\n<=2 ^ 40/\KI (qE 0 1 n.toNat) s1):qL e ρ s KI:=h
theorem L.W?(inv:M->uZ->LH->Prop)(h0:inv i ρ s)
  (step:∀m ρ s (Kb:KS),inv m ρ s->(∀fl em E,ue (λem E=>∃m',m'<m/\inv m' em E) K' fl em E->Kb fl em E)->mc ρ s λtg s1=>if tg then bb ρ s1 Kb else K' .next ρ s1):qw mc bb ρ s K':=by
 suffices ci:∀n m ρ s,m<n->inv m ρ s->L.è mc bb n ρ s K' from ⟨i+1,ci _ _ _ _ (iC _) h0⟩
 intro n
 induction n with
 | zero=>intro m ρ s h _;exact(PO [0] 1180705 H h).elim
 | succ n ih=>
  intro m ρ s hn hv;refine step m ρ s (ue (λem E=>L.è mc bb n em E K') K') hv λfl em E hl=>?_
  cases fl with
  | next=>exact s9 hl λm' h1 h2=>ih m' _ _ (uy [1] 0x2902531021004a030423 H hn h1) h2
  | cont=>exact s9 hl λm' h1 h2=>ih m' _ _ (uy [1] 0x2902531021004a030423 H hn h1) h2
  | brk=>exact hl
  | ret v=>exact hl
theorem HO{KL:V LV->LH->Prop}(f:M->sF LV)(inv:M->V LV->uZ->LH->Prop)(h0:inv 0 [] ρ s)(hf:∀i,f i=sD<->N<=i)(hx:∀i a ρ s,i<=N->inv i a ρ s->nx i s=J (f i))
  (step:∀i v acc ρ s,f i=J v->inv i acc ρ s->∃jp,tg v ρ=J jp/\∀(Ky:LV->LH->Prop) (Kn:LH->Prop),((∀x E,R acc<=2 ^ 24 - 1/\inv (i+1) (acc++[x]) jp E->Ky x E)->(∀E,inv (i+1) acc jp E->Kn E)->mc jp s λbb ZK=>if bb then e jp ZK Ky else Kn ZK))
  (fin:∀acc ρ s,inv N acc ρ s->KL acc s):∃n,rf nx tg mc e n 0 [] ρ s KL:=by
 suffices ci:∀n i acc ρ s,i<=N->N - i<n->inv i acc ρ s->rf nx tg mc e n i acc ρ s KL from ⟨N+1,ci (N+1) 0 [] ρ s (gE _) (tD [0,1] 0x425010252802400442 H (gO (tY [0] 134251649 H))) h0⟩
 intro n
 induction n with
 | zero=>intro i acc ρ s _ h _;exact(PO [0] 1180705 H h).elim
 | succ n ih=>
  intro i acc ρ s hi hn hv;unfold rf;refine D (hx i acc ρ s hi hv) ?_;cases NE:f i with
  | none=>
   have:i=N:=by have:=(hf i).mp NE;exact gZ (tD [] 0x52048520402 H hi) (tD [] 0x42848428402 H this)
   obtain rfl:=this.symm;exact .inl ⟨H,fin acc ρ s hv⟩
  | some v=>
   have ZY:i<N:=by
    rcases iZ i N with h | h
    .exact h
    .rw[(hf i).mpr h]at NE;exact uH NE
   refine s9 (step i v acc ρ s NE hv) λjp h1 h2=>.inr ⟨v,jp,H,h1,?_⟩
   exact h2 (λx ZV=>R acc<=2 ^ 24 - 1/\rf nx tg mc e n (i+1) (acc++[x]) jp ZV KL) (λZK=>rf nx tg mc e n (i+1) acc jp ZK KL) (λx E ZN=>xA ZN λa bb=>⟨a,ih _ _ _ _ (tD [1] 0x280240048520422 H ZY) (Mq [1] 0x14812a0e600468004e020022004a030424 H hn (gO (tD [1] 0x280240048520422 H ZY)) (gO (tD [] 0x52048520422 H ZY))) bb⟩) λE a=>ih _ _ _ _ (tD [1] 0x280240048520422 H ZY) (Mq [1] 0x14812a0e600468004e020022004a030424 H hn (gO (tD [1] 0x280240048520422 H ZY)) (gO (tD [] 0x52048520422 H ZY))) a
noncomputable def HP(loc:M)(ld:V M)(t:LT)(test:LB)(elt:LE)(ρ:uZ)(KE:LV->LH->Prop):Nx->LH->Prop:=λnx s1=>∃n,rf nx t test elt n 0 [] (hU loc sD++ld.map λi=>(ρ[i]?).join) s1 λxs s2=>∀mc,s2 mc=sD->KE (Y mc) (ur s2 mc (f1 xs))
theorem dJ{mi:LI}(h:mi ρ s (HP i ld tg mc e ρ KE)):rg mi i ld tg mc e ρ s KE:=h
theorem EP(inv:M->V LV->LH->Prop)(on:hU t sD++ld.map (λi=>(ρ[i]?).join)=ρ0)(h0:inv 0 [] s)(hx:∀i a s,i<=R vs->inv i a s->nx i s=J vs[i]?)(hz:R vs<=2 ^ 24 - 1)
  (step:∀i v acc s (jp:uZ) (Ky:LV->LH->Prop),vs[i]?=J v->R acc=i->inv i acc s->(∃x,jp=(ρ0.set k x).set k (J v))->(∀x E,inv (i+1) (acc++[x]) E->Ky x E)->e jp s Ky)
  (fin:∀acc s,R acc=R vs->inv (R vs) acc s->∀mc,s mc=sD->KE (Y mc) (ur s mc (f1 acc))):HP t ld (qF k) pV e ρ KE nx s:=by
 unfold HP;refine D on (HO (λi=>vs[i]?) (λi acc ρ s=>R acc=i/\inv i acc s/\∃x,ρ=ρ0.set k x) ⟨H,h0,?_⟩ (λi=>jg) (λi a ρ s hi h=>hx i a s hi h.2.1) (λi v acc ρ s hv ⟨hl,hi,x,hr⟩=>⟨_,H,λKy Kn hy ø=>?_⟩) λacc ρ s ZN=>zY ZN λhl h ø=>fin acc s hl h)
 .by_cases hk:k<R ρ0
  .exact⟨ρ0[k],by exact D (mN _) H⟩
  .exact⟨sD,by exact D (oT (by exact tD [] 0x520484284a2 H hk)) H⟩
 .subst hr;refine PF (A:=e _ s Ky) (B:=Kn s) (step i v acc s _ Ky hv hl hi ⟨x,H⟩ λy E h=>hy y E (AV ?_ (by simp[hl]) h ⟨J v,by exact D (ki _) H⟩));exact uy [16777215] 0x24090a6084c40880128404 H hz hl ((gB.mp hv).1:i<R vs)
noncomputable def Op(op:LP)(st:LH)(v:LV):Prop:=∀K:LV->LH->Prop,K v st->op st K
noncomputable def Ev(e:LE)(ρ:uZ)(st:LH)(v:LV):Prop:=∀K:LV->LH->Prop,K v st->e ρ st K
noncomputable def NX(e:Mr)(ρ:uZ)(st:LH)(v:V LV):Prop:=∀K:V LV->LH->Prop,K v st->e ρ st K
noncomputable def EvB(e:LB)(ρ:uZ)(st:LH)(v:bn):Prop:=∀K:bn->LH->Prop,K v st->e ρ st K
namespace Ev
theorem var(h:ρ[i]?=J (J v)):Ev (U i) ρ s v:=λK k=>cG h k
theorem lit:Ev (pG v) ρ s v:=λK k=>k
theorem bin{f:LE}{op:LV->LV->LP}(h:Ev e ρ s b)(g:Ev f ρ s ZM)(o:Op (op b ZM) s v):Ev (pI op e f) ρ s v:=λK k=>h _ (g _ (o K k))
theorem un{op:LV->LP}(h:Ev e ρ s b)(o:Op (op b) s v):Ev (pJ op e) ρ s v:=λK k=>h _ (o K k)
theorem tup(h:NX es ρ s vs)(z:R vs<=1000):Ev (pN es) ρ s (f2 vs):=λK k=>h _ ⟨z,k⟩
theorem attr{cl:sE}(h:Ev e ρ s b)(o:Op (L.getA cl i b) s v):Ev (L.Zx cl i e) ρ s v:=λK k=>h _ (o K k)
theorem call(h:NX es ρ s vs)(o:Op (fn vs) s v):Ev (L.call fn es) ρ s v:=λK k=>h _ (o K k)
theorem callN(h:NX es ρ s vs)(o:Op (fn vs) s v):Ev (rz fn es) ρ s v:=λK k=>h _ (o K k)
theorem callM{cl:sE}(h:Ev e ρ s b)(hi:L.ĥ cl s b)(g:NX es ρ s vs)(o:Op (fn (b::vs)) s v):Ev (qC cl fn e es) ρ s v:=λK k=>h _ ⟨hi,g _ (o K k)⟩
theorem callB{P:LH->LV->Prop}(h:Ev e ρ s b)(hi:P s b)(g:NX es ρ s vs)(o:Op (fn (b::vs)) s v):Ev (qV P fn e es) ρ s v:=λK k=>h _ ⟨hi,g _ (o K k)⟩
theorem ś(h:EvB mc ρ s pH)(g:Ev e ρ s v):Ev (pP mc e mo) ρ s v:=λK k=>h _ (PF (g K k))
theorem Ŝ(h:EvB mc ρ s Zt)(g:Ev mo ρ s v):Ev (pP mc e mo) ρ s v:=λK k=>h _ (Cb (g K k))
theorem ife{t:bn}(h:EvB mc ρ s t)(g:t=pH->Ev e ρ s v)(g':t=Zt->Ev mo ρ s v):Ev (pP mc e mo) ρ s v:=by
 cases t
 .exact Ŝ h (g' H)
 .exact ś h (g H)
theorem w_(h:Ev e ρ s (ii pH))(g:Ev mo ρ s v):Ev (pY e mo) ρ s v:=λK k=>h _ (g K k)
end Ev
open _root_.Mine.Ev renaming var->Z,lit->rD,bin->rE,un->rF,tup->rG,attr->rH,call->rI,callN->rJ,callM->rK
theorem cF:NX pK ρ s []:=λK k=>k
theorem cE(h:Ev e ρ s v)(g:NX es ρ s vs):NX (pL e es) ρ s (v::vs):=λK k=>h _ (g _ k)
namespace EvB
theorem cmp{f:LE}{x:LV}{t:bn}{op:LV->LV->LP}(h:Ev e ρ s x)(g:Ev f ρ s b)(o:Op (op x b) s (ii t)):EvB (pX op e f) ρ s t:=λK k=>h _ (g _ (o _ k))
theorem not(h:EvB mc ρ s mf):EvB (pR mc) ρ s (!mf):=λK k=>h _ k
theorem and{s t:bn}(h:EvB mc ρ E s)(g:s=pH->EvB cB ρ E t):EvB (pS mc cB) ρ E (s&&t):=by
 cases s
 .exact λK k=>h _ (Cb k)
 .exact λK k=>h _ (PF (g H K k))
theorem or{t:bn}(h:EvB mc ρ E mf)(g:mf=Zt->EvB cB ρ E t):EvB (pU mc cB) ρ E (mf||t):=by
 cases mf
 .exact λK k=>h _ (Cb (g H K k))
 .exact λK k=>h _ (PF k)
theorem and_t(h:EvB mc ρ s pH)(g:EvB cB ρ s mf):EvB (pS mc cB) ρ s mf:=λK k=>h _ (PF (g K k))
theorem and_r(h:EvB mc ρ s mf):EvB (pS mc pV) ρ s mf:=by
 cases mf
 .exact λK k=>h _ (Cb k)
 .exact λK k=>h _ (PF k)
theorem v!(h:EvB mc ρ s Zt)(g:EvB cB ρ s mf):EvB (pU mc cB) ρ s mf:=λK k=>h _ (Cb (g K k))
theorem Ŕ(h:EvB mc ρ s mf):EvB (pU mc pW) ρ s mf:=by
 cases mf
 .exact λK k=>h _ (Cb k)
 .exact λK k=>h _ (PF k)
theorem tt:EvB pV ρ s pH:=λK k=>k
theorem tv(h:Ev e ρ s (ii mf)):EvB (pQ e) ρ s mf:=λK k=>h _ k
theorem tvl(h:Ev e ρ s (Y l))(hl:s l=J (f1 vs)):EvB (pQ e) ρ s (!vs.isEmpty):=λK k=>h _ (Yh hl k)
end EvB
open _root_.Mine.EvB renaming cmp->rL,not->rN,and->rO,and_t->rP,and_r->rQ,tt->rR,tv->rS
namespace Op
theorem getA(h:s l=J (f4 a d vs))(hf:vs[i]?=J v):Op (L.getA a i (Y l)) s v:=λK k=>eY h hf k
theorem add:Op (pZ (f0 hs) (f0 d7)) s (f0 (hs+d7)):=λK k=>k
theorem x!(z:R vs+R fs<=th):Op (pZ (f2 vs) (f2 fs)) s (f2 (vs++fs)):=λK k=>⟨z,k⟩
theorem sub{p:al}:Op (p6 (f0 p) (f0 hs)) s (f0 (p - hs)):=λK k=>k
theorem neg:Op (qe (f0 hs)) s (f0 (-hs)):=λK k=>k
theorem lt{p q:al}:Op (qf (f0 p) (f0 q)) s (ii (b8 (p<q))):=λK k=>k
theorem gt{p q:al}:Op (L.gt (f0 p) (f0 q)) s (ii (b8 (q<p))):=λK k=>k
theorem ge{p q:al}:Op (L.ge (f0 p) (f0 q)) s (ii (b8 (q<=p))):=λK k=>k
theorem eqI{p q:al}:Op (qk Zt (f0 p) (f0 q)) s (ii (b8 (p=q))):=λK k=>fb (by simpa using k)
theorem neI:Op (qk pH (f0 hs) (f0 d7)) s (ii (!b8 (hs=d7))):=λK k=>fb (by simpa using k)
theorem itemL{n:M}(h:s l=J (f1 vs))(hv:vs[n]?=J v):Op (qi (Y l) (f0 n)) s v:=λK k=>L.itemL h hv k
theorem itemT{n:M}(hv:vs[n]?=J v):Op (qi (f2 vs) (f0 n)) s v:=λK k=>L.itemT hv k
theorem ŏ(h:s l=J (f8 Zy))(hk:wu Zy=pH)(hv:v5 Zy (f0 hs)=J v):Op (qi (Y l) (f0 hs)) s v:=λK k=>L.ŏ h hk hv k
theorem ĝ(h:s l=J (f8 Zy))(hk:vG Zy=pH)(ha:(Dr vs).isSome=pH)(hv:v5 Zy (f2 vs)=J v):Op (qi (Y l) (f2 vs)) s v:=λK k=>L.ĝ h hk ha hv k
theorem lenL(h:s l=J (f1 vs)):Op (qN [Y l]) s (f0 (R vs)):=λK k=>L.lenL h k
theorem lenT:Op (qN [f2 vs]) s (f0 (R vs)):=λK k=>L.lenT k
theorem isN_t{y:LV}:Op ((λbb ø=>qg bb) .none y) s (ii pH):=λK k=>(show K (ii (b8 ((.none:LV)=.none))) s by rw[sM H];exact k)
theorem isN_f{y:LV}(h:b≠.none):Op ((λbb ø=>qg bb) b y) s (ii Zt):=λK k=>(show K (ii (b8 (b=.none))) s by rw[sT h];exact k)
theorem notN_t{y:LV}(h:b≠.none):Op ((λbb ø=>qh bb) b y) s (ii pH):=λK k=>(show K (ii (!b8 (b=.none))) s by rw[sT h];exact k)
theorem notN_f{y:LV}:Op ((λbb ø=>qh bb) .none y) s (ii Zt):=λK k=>(show K (ii (!b8 ((.none:LV)=.none))) s by rw[sM H];exact k)
end Op
open _root_.Mine.Op renaming getA->rT,add->rU,sub->rV,neg->rW,lt->rX,ge->rY,eqI->rZ,neI->r4,itemL->r5,itemT->r8,lenL->sa,lenT->sb,isN_t->sd,isN_f->se,notN_t->sf,notN_f->sg
theorem cI(h:Ev e ρ s v)(k:Kb .next (ρ.set i (J v)) s):qp i e ρ s Kb:=h _ k
theorem cP(h:Ev e ρ s v)(k:Kb (.ret v) ρ s):qt e ρ s Kb:=h _ k
theorem cL{t:bn}(h:EvB mc ρ s t)(h1:t=pH->bb ρ s Kb)(h2:t=Zt->EQ ρ s Kb):qv mc bb EQ ρ s Kb:=h _ (Wr h1 h2)
theorem dK(h:Ev e ρ s v)(ht:tg v ρ=J io)(k:Kb .next io s):rA tg e ρ s Kb:=h _ (ti _ ht k)
theorem Yv(m n:M):mC (m:al) (n:al)=((m&&&n:M):al):=
 D (sM (ig m)) (D (sM (ig n)) H)
theorem Zh(m n:M):mD (m:al) (n:al)=((m|||n:M):al):=by
 have nn:∀k:M,jB (jB (k:al))=k:=λk=>by unfold jB;lia
 have ng:∀k:M,¬ (0<=jB (k:al)):=λk=>by unfold jB;lia
 unfold mD mC;refine D (sT (ng m)) (D (sT (ng n)) (?_:jB (jB _)=_));refine D (nn _) (?_:(((jB (jB (m:al))).toNat|||(jB (jB (n:al))).toNat:M):al)=_);exact D (nn _) (D (nn _) H)
theorem Yw(m n:M):(m:al).fdiv (2 ^ ((n:al)).toNat)=((m >>> n:M):al):=by
 have h:(2 ^ n:al)=((2 ^ n:M):al):=by push_cast;rfl
 exact D (jl _) (D (nR _ _) (D h (D (oU _ (ig _)) ((Int.natCast_ediv _ _).symm))))
namespace Op
theorem band{n:M}:Op (p9 (f0 m) (f0 n)) s (f0 (m&&&n:M)):=λK k=>by
 refine(?_:K (f0 (mC m n)) s);exact D (Yv _ _) k
theorem bor:Op (qa (f0 m) (f0 i)) s (f0 (m|||i:M)):=λK k=>by
 refine(?_:K (f0 (mD m i)) s);exact D (Zh _ _) k
theorem shr{n:M}:Op (qc (f0 m) (f0 n)) s (f0 (m >>> n:M)):=λK k=>⟨ig n,by exact D (Yw _ _) k⟩
theorem shl1(h:i<=1000000):Op (qb (f0 1) (f0 i)) s (f0 (2 ^ i:M)):=λK k=>by
 refine(AV (ig i) (kD jf h) (by decide) (D (jl _) (D (Int.one_mul _) ?_)));have:(2 ^ i:al)=((2 ^ i:M):al):=by push_cast;rfl
 exact D this k
end Op
open _root_.Mine.Op renaming band->si,bor->sj,shr->sk,shl1->sq
structure Gm where
 ZH:V ap
 aa:M
 ZF:V (M×V M)
variable {G:Gm}
noncomputable def nL(l:V M):V LV:=l.map λ(n:M)=>f0 (n:al)
noncomputable def Gm.Zv(G:Gm)(r:M):V M:=(G.ZF.getD r (0,[])).2
noncomputable def Gm.ZE(G:Gm)(r:M):M:=(G.ZF.getD r (0,[])).1
noncomputable def yv:V (M×V M)->M->M
 | [],_=>0
 | _,0=>0
 | x::l,r+1=>R x.2+1+yv l r
noncomputable def Gm.it(G:Gm)(p:M×M):M:=yv G.ZF p.1+p.2
noncomputable def BM:V (M×V M)->M->V M
 | [],_=>[]
 | x::l,i=>hU (R x.2+1) i++BM l (i+1)
theorem VC:yv (gc::ps) (r+1)=R gc.2+1+yv ps r:=H
theorem VD:yv (gc::ps) 0=0:=H
theorem CP:BM (gc::ps) i=hU (R gc.2+1) i++BM ps (i+1):=H
theorem Qx:BM [] i=[]:=H
noncomputable def Gm.count(G:Gm):M:=R (BM G.ZF 0)
noncomputable def Gm.ZL(G:Gm)(s:M):V M:=(gN (R G.ZF)).filter λr=>G.ZE r=s
noncomputable abbrev Gm.Ok(G:Gm)(p:M×M):Prop:=p.1<R G.ZF/\p.2<=R (G.Zv p.1)
def Gm.Ok.ao(h:Gm.Ok G p):=h.1
def Gm.Ok.au(h:Gm.Ok G p):=h.2
theorem G0:∀{i r:M},ps[r]?=J gc->t<=R gc.2->(BM ps i)[yv ps r+t]?=J (i+r):=by
 induction ps with
 | nil=>exact λh ø=>z9 h
 | cons x ps ih=>
  intro i r h hd;cases r with
  | zero=>
   refine D (gv h) ?_
   (rewrite[CP,VD];refine D (hV (by simp;exact tD [1] 0x4a0204a520402 H hd)) (D (nF) (D (sI (by exact tD [0,1] 0x42501001004a520402 H hd)) ?_)));rfl
   all_goals (intro h;exact(sN kL h).elim)
  | succ r=>
   (rewrite[CP,VC];refine D (il (by simp;exact uy [1] 0x18a0090000002400481 H)) (D jA (D (show R x.2+1+yv ps r+t - (R x.2+1)=yv ps r+t by exact gZ (Dp [1] 0x18a020486280270000009c0400442 H (gO (uy [1] 0x1480098000002600481 H))) (Dp [1] 0x10c500486280270000009c0400462 H (gO (uy [1] 0x1480098000002600481 H)))) (D (ih (i:=i+1) h hd) ?_))))
   congr 1;exact gZ (tD [1] 0x25010050048000481 H) (tD [1] 0x1401200000940400481 H)
theorem dR(h:r<R G.ZF):G.ZF[r]?=J (G.ZE r,G.Zv r):=by
 unfold Gm.ZE Gm.Zv;refine D (iJ) (D (gM h) ?_);rfl
theorem Gm.Ok.lt(h:G.Ok p):G.it p<G.count:=
 (gB.mp (G0 (i:=0) (dR h.ao) h.au)).1
theorem dN(hp:G.Ok p)(hq:G.Ok k')(e:G.it p=G.it k'):p=k':=by
 have h1:=G0 (i:=0) (dR hp.ao) hp.au;unfold Gm.it at e;rw[e,(G0 (i:=0) (dR hq.ao) hq.au)]at h1;have e1:p.1=k'.1:=by simp at h1;exact h1.symm
 rw[e1]at e;exact ji e1 (gZ (uy [] 0x5204853008600442 H e) (uy [] 0x4284853008600462 H e))
structure GA where
 au:sE
 nm:sE
 aX:sE
 lv:sE
 y!:sE
 Û:sE
 ow:sE
 start:LV
 aY:V sE
 bl:V sE
variable {x:GA}
noncomputable abbrev GX(st:LH)(g:sE)(G:Gm)(x:GA):Prop:=st g=J (f4 169 x.au [Y x.nm,f0 G.aa,Y x.aX,Y x.lv,.none,x.start,Y x.y!,Y x.Û,Y x.ow,f0 G.count])/\st x.nm=J (f1 (G.ZH.map g3))/\st x.aX=J (f1 (x.aY.map Y))/\R x.aY=R G.ZF/\(∀(r:M) (a:sE),x.aY[r]?=J a->∃d ZM,st a=J (f4 87 d [f0 r,f0 (G.ZE r),f2 (nL (G.Zv r)),ZM,.none,f0 0,f0 0]))/\st x.y!=J (f1 (x.bl.map Y))/\R x.bl=R G.ZH/\(∀(s:M) (a:sE),x.bl[s]?=J a->st a=J (f1 (nL (G.ZL s))))/\st x.Û=J (f1 (nL ((gN (R G.ZF)).map (yv G.ZF))))/\st x.ow=J (f1 (nL (BM G.ZF 0)))
def GX.hg(h:GX s g G x):=h.1
def GX.KF(h:GX s g G x):=h.2.1
def GX.Z2(h:GX s g G x):=h.2.2.1
def GX.ν(h:GX s g G x):=h.2.2.2.1
def GX.ru(h:GX s g G x):=h.2.2.2.2.1
def GX.Ŗ(h:GX s g G x):=h.2.2.2.2.2.1
def GX.š(h:GX s g G x):=h.2.2.2.2.2.2.1
def GX.bl(h:GX s g G x):=h.2.2.2.2.2.2.2.1
def GX.î(h:GX s g G x):=h.2.2.2.2.2.2.2.2.1
def GX.how(h:GX s g G x):=h.2.2.2.2.2.2.2.2.2
theorem GX.Zz(h:GX ZJ g G x)(l:Le ZJ E):GX E g G x:=
 ⟨l _ _ h.hg,l _ _ h.KF,l _ _ h.Z2,h.ν,λr a e=>KC (h.ru r a e) λd v q=>⟨d,v,l _ _ q⟩,l _ _ h.Ŗ,h.š,λs a e=>l _ _ (h.bl s a e),l _ _ h.î,l _ _ h.how⟩
theorem GX.rule(h:GX s g G x)(hr:r<R G.ZF):∃a d ZM,x.aY[r]?=J a/\s a=J (f4 87 d [f0 r,f0 (G.ZE r),f2 (nL (G.Zv r)),ZM,.none,f0 0,f0 0]):=by
 have hl:r<R x.aY:=D h.ν hr;refine KC (h.ru r x.aY[r] (gM hl)) λd v q=>?_
 exact(NA _ d v (gM hl) q)
theorem xk(h:w[i]?=J t):(nL w)[i]?=J (f0 (t:al)):=by unfold nL;refine D (gG) (D h ?_);rfl
theorem vl(h:ra[i]?=J a):(ra.map Y)[i]?=J (Y a):=by refine D (gG) (D h ?_);rfl
theorem sU(l:V M):R (nL l)=R l:=gy ..
theorem ed(hp:G.Ok p):(nL (BM G.ZF 0))[G.it p]?=J (f0 p.1):=by
 have:=xk (G0 (i:=0) (dR hp.ao) hp.au);rw[iB]at this;exact this
theorem eB(hr:r<R G.ZF):(nL ((gN (R G.ZF)).map (yv G.ZF)))[r]?=J (f0 (yv G.ZF r:M)):=xk (by refine D (gG) (D (kJ hr) ?_);rfl)
theorem vP(h:GX E g G x):Op (tN [Y g,f0 hs]) E (ii (b8 (hs<G.aa))):=λKE k=>by
 refine BE (cP ?_ k);exact rE (Z H) (rH (Z H) (rT h.hg H)) rX
theorem xm(h:GX s g G x):Op (t7 [Y g]) s (f0 (R G.ZH)):=λKE k=>by
 rw[((gy ..).symm:R G.ZH=R (G.ZH.map g3))]at k;refine A7 (cP ?_ k);exact rJ (cE (rH (Z H) (rT h.hg H)) cF) (sa h.KF)
theorem VE(h:GX s g G x)(hr:r<R G.ZF):Op (ug [Y g,f0 r,f0 hs]) s (f0 ((yv G.ZF r:al)+hs)):=λKE k=>by
 refine Gy (cP ?_ k);exact rE (rE (rH (Z H) (rT h.hg H)) (Z H) (r5 h.î (eB hr))) (Z H) rU
theorem xY(h:GX s g G x)(hp:G.Ok p):Op (tQ [Y g,f0 (G.it p)]) s (f0 p.1):=λKE k=>by
 refine DJ (cP ?_ k);exact rE (rH (Z H) (rT h.hg H)) (Z H) (r5 h.how (ed hp))
theorem Qy:((G.it p:M):al) - (yv G.ZF p.1:M)=p.2:=by unfold Gm.it;lia
theorem CQ(h:GX s g G x)(hp:G.Ok p):Op (uq [Y g,f0 (G.it p)]) s (f0 p.2):=λKE k=>by
 rw[<- Qy]at k;refine Es (cP ?_ k);exact rE (Z H) (rE (rH (Z H) (rT h.hg H)) (rE (rH (Z H) (rT h.hg H)) (Z H) (r5 h.how (ed hp))) (r5 h.î (eB hp.ao))) rV
noncomputable def Gm.M2(G:Gm)(p:M×M):al:=match (G.Zv p.1)[p.2]? with | some s=>(s:al) | none=>-1
theorem C7(h:GX s g G x)(hp:G.Ok p):Op (uw [Y g,f0 (G.it p)]) s (f0 (G.M2 p)):=λKE k=>by
 refine vL (h.rule hp.ao) λa d ZM ha ol=>Ft (cI (rH (rE (rH (Z H) (rT h.hg H)) (rE (rH (Z H) (rT h.hg H)) (Z H) (r5 h.how (ed hp))) (r5 h.Z2 (vl ha))) (rT ol H)) (sP ?_))
 refine cI (rE (Z H) (rE (rH (Z H) (rT h.hg H)) (rE (rH (Z H) (rT h.hg H)) (Z H) (r5 h.how (ed hp))) (r5 h.î (eB hp.ao))) rV) (sP (D Qy (cP (v:=f0 (G.M2 p)) (Ev.ife (t:=b8 ((p.2:al)<R (nL (G.Zv p.1)))) (rL (Z H) (rJ (cE (Z H) cF) sb) rX) (λq=>?_) λq=>?_) k)))
 .have q:=sQ q;rw[sU]at q;unfold Gm.M2;refine D (gM (Iff.mp g8 q:p.2<R (G.Zv p.1))) ?_;exact rE (Z H) (Z H) (r8 (xk (gM (Iff.mp g8 q:p.2<R (G.Zv p.1)))))
 .have q:=sW q;rw[sU]at q;unfold Gm.M2;refine D (iz (jd λh=>q (g8.mpr h))) ?_;exact rF rD rW
theorem HQ(m t:M):decide ((((m >>> t)&&&1:M):al)=1)=m.testBit t:=by
 (rewrite[Nat.testBit];refine D (Nat.and_comm _ _) ?_)
 have h:(1&&&(m >>> t))=0\/(1&&&(m >>> t))=1:=by
  exact(Nat.eq_zero_or_pos _).imp id (gZ Nat.and_le_left)
 rcases h with h | h<;>refine D h ?_<;>rfl
noncomputable def RL(st:LH)(K:LV->LH->Prop)(xs:V LV):Prop:=∀c E,Le st E->st c=sD->E c=J (f1 xs)->K (Y c) E
theorem fU(hv:Ev v' ρ s v)(ho:Ev e ρ s b)(hi:Ev mo ρ s ZM)(hs:qA s b ZM v=J E)(k:Kb .next ρ E):qB e mo v' ρ s Kb:=hv _ (ho _ (hi _ (ti _ hs k)))
theorem NY(h:s l=J (f1 vs))(hn:i<R vs):qA s (Y l) (f0 i) b=J (ur s l (f1 (vs.set i b))):=by
 unfold qA;simp only[h];exact D (sI ⟨ig i,by simpa using hn⟩) (D (jl _) H)
theorem SM(h:s l=J (f8 Zy))(hk:wu Zy=pH)(hz:R Zy<=th):qA s (Y l) (f0 hs) b=J (ur s l (f8 (Cp Zy (f0 hs) b))):=by
 unfold qA;simp only[h];exact D (sI ⟨.int hk,hz⟩) H
theorem SN(h:s l=J (f8 Zy))(hk:vG Zy=pH)(ha:(Dr vs).isSome=pH)(hz:R Zy<=th):qA s (Y l) (f2 vs) b=J (ur s l (f8 (Cp Zy (f2 vs) b))):=by
 unfold qA;simp only[h];exact D (sI ⟨.atoms hk ha,hz⟩) H
theorem eQ(k:∀mc,s mc=sD->bb (ρ.set i (J (Y mc))) (ur s mc (f1 [])) Kb):qo (qp i (pM pK)) bb ρ s Kb:=⟨by decide,λmc hc=>k mc hc⟩
theorem fD(k:∀mc,s mc=sD->bb (ρ.set i (J (Y mc))) (ur s mc (f8 [])) Kb):qo (qp i pO) bb ρ s Kb:=λmc hc=>k mc hc
theorem fK(ho:Ev mo ρ s (Y l))(hl:s l=J (f1 vs))(hv:Ev e ρ s v)(hz:R vs<=2 ^ 24 - 1)(k:bb ρ (ur s l (f1 (vs++[v]))) Kb) :
  qo (qr (qV qT qW mo (pL e pK))) bb ρ s Kb:=ho _ ⟨dk hl,hv _ (dP (KE:=λø s1=>bb ρ s1 Kb) hl hz k)⟩
theorem eM(ho:Ev e ρ s (Y l))(hl:s l=J (f1 vs))(hz:R vs<=th)(k:∀mc,s mc=sD->bb (ρ.set i (J (Y mc))) (ur s mc (f1 vs)) Kb) :
  qo (qp i (rz qO (pL e pK))) bb ρ s Kb:=ho _ (eH (KE:=λv s1=>bb (ρ.set i (J v)) s1 Kb) hl hz λmc hc=>k mc hc)
theorem f9(h:Ev e ρ s (Y l))(hl:s l=J (f1 vs))(g:∃n,qH (qD l) (qF k) bb n 0 ρ s Kb):qI (qJ e) (qF k) bb ρ s Kb:=h _ (.inr (tU _ _ H hl g))
theorem fW(h:Ev e ρ s (Y l))(hl:s l=J (f1 vs))(g:∃n,qH (qD l) (qG k j) bb n 0 ρ s Kb):qI (qJ e) (qG k j) bb ρ s Kb:=h _ (.inr (tU _ _ H hl g))
theorem f6(h:Ev e ρ s (f2 vs))(g:∃n,qH (L.ë vs) (qF k) bb n 0 ρ s Kb):qI (qJ e) (qF k) bb ρ s Kb:=h _ (.inl (ti _ H g))
theorem eU{n:M}(h:Ev e ρ s (f0 n))(hz:n<=2 ^ 40)(g:∃m,qH (qE 0 1 n) (qF k) bb m 0 ρ s Kb):qI (qL e) (qF k) bb ρ s Kb:=h _ ⟨_,H,by exact ig _,by exact kD jf hz,by exact D (jl _) g⟩
theorem fI(inv:M->uZ->LH->Prop){m0:M}(h0:inv m0 ρ s)
  (step:∀m ρ s,inv m ρ s->∃t,EvB mc ρ s t/\(t=pH->∀Kb:KS,(∀fl em E,ue (λem E=>∃m',m'<m/\inv m' em E) K' fl em E->Kb fl em E)->bb ρ s Kb)/\(t=Zt->K' .next ρ s)):qw mc bb ρ s K':=
 L.W? inv h0 λm ρ s Kb hi hK=>by
  exact tW (step m ρ s hi) λt h1 h2 h3=>h1 _ (Wr (λe=>h2 e Kb hK) h3)
theorem NZ(st:LH)(a:sE)(o o':LO):ur (ur st a o) a o'=ur st a o':=by
 funext b;unfold ur;split<;>rfl
theorem Ao(p:M->bn)(n:M):(gN (n+1)).filter p=(gN n).filter p++(if p n then [n] else []):=by
 refine D ll (D (jS _ _) ?_);congr 1;cases h:p n<;>simp[h]
theorem wQ(xs:V M)(n:M):nL xs++[f0 n]=nL (xs++[n]):=by unfold nL;exact D gF H
theorem yd(xs ys:V M):nL xs++nL ys=nL (xs++ys):=by unfold nL;exact D gF H
theorem VF(hm:m<2 ^ i)(hB:i<=1000)(k:∀n,m<2 ^ n->RL E K (nL ((gN n).filter m.testBit))):MP [f0 m] E K:=by
 refine So (eQ λc hc=>(cI rD (sP (cI (Z H) (sP (cJ (fI (λr ρ s=>∃t,ρ=[J (f0 m),J (Y c),J (f0 (t:M)),J (f0 (m >>> t:M))]/\s c=J (f1 (nL ((gN t).filter m.testBit)))/\Le E s/\t<=i/\r=i - t) (m0:=i) (wU 0 H (te ..) (Le.new hc) ⟨gE _,H⟩) ?_)))))))
 rintro r ρ s ⟨t,rfl,hs,hl,ht,rfl⟩
 refine(tC (b8 ((0:al)<((m >>> t:M):al))) (rL (Z H) rD Op.gt) (λhp Kb hK=>?_) (λhp=>?_))
 .have hp:=sQ hp
  have ZY:t<i:=by
   rcases iZ t i with h | h
   .exact h
   .have:m >>> t=0:=D (nR _ _) (Nat.div_eq_of_lt (ij hm (lA (by decide) h)));rw[this]at hp;cases hp
  have fin:∀s',s' c=J (f1 (nL ((gN (t+1)).filter m.testBit)))->Le E s'->
    qo (qp 3 (pI qc (U 3) (pG (f0 1)))) (qo (qp 2 (pI pZ (U 2) (pG (f0 1)))) qm) [J (f0 m),J (Y c),J (f0 (t:M)),J (f0 (m >>> t:M))] s' Kb:=λs' h1 h2=>by
   exact cI (rE (Z H) rD (sk (n:=1))) (cJ (cI (rE (Z H) rD rU) (sP (hK .next _ _ (xy (i - (t+1)) (Dp [1] 0x29025398a008ce00980400443 H (gO (tD [1] 0x280240048520422 H ZY)) (gO (tD [] 0x52048520422 H ZY))) (t+1) (by rw[<- Nat.shiftRight_add];rfl) h1 (uS h2 ZY H))))))
  refine cL (t:=m.testBit t) (by rw[<- HQ];exact rL (rE (Z H) rD (si (n:=1))) rD rZ) (λhb=>?_) λhb=>?_
  .refine fK (Z H) hs (Z H) ?_ ?_
   .refine D (sU _) ?_;have:R ((gN t).filter m.testBit)<=R (gN t):=jb ..;rw[iq]at this;exact uy [1000,16777215] 0x424090c4080a60840128404 H hB ZY this
   .refine fin _ ?_ (hl.upd hc)
    (rewrite[te];exact D (wQ _ _) (D (Ao _ _) (D hb (D (sI H) H))))
  .refine fin _ ?_ hl;refine D (Ao _ _) (D hb ?_);simpa using hs
 .have hz:m >>> t=0:=Nat.eq_zero_of_not_pos λh=>(sW hp) (by exact_mod_cast h)
  have hmt:m<2 ^ t:=by rw[nR]at hz;exact(Nat.div_eq_zero_iff_lt (mO t)).mp hz
  refine sP (cP (Z H) (k t hmt c s hl hc hs))
noncomputable def UR(F:V M)(m x:M):M:=if x.testBit m then x|||F.getD m 0 else x
noncomputable def xn(F:V M)(m:M):V M:=F.map (UR F m)
noncomputable def J1(F:V M):V M:=(gN (R F)).foldl xn F
noncomputable def Ap(F:V M)(m k:M):V M:=(F.take k).map (UR F m)++F.drop k
theorem IZ(F:V M)(m:M):R (xn F m)=R F:=gy ..
theorem I0(ms:V M):∀F:V M,R (ms.foldl xn F)=R F:=by
 induction ms with
 | nil=>intro F;rfl
 | cons m r ih=>intro F;exact D List.foldl_cons (D (ih _) (D (IZ _ _) H))
theorem I8(F:V M)(m k:M):R (Ap F m k)=R F:=by unfold Ap;simp;exact(Nat.le_total k (R F)).elim (λh=>D (iO h) (Nat.add_sub_of_le h)) (λh=>D (nS h) (D (Nat.sub_eq_zero_of_le h) H))
theorem O6(F:V M)(m:M):Ap F m (R F)=xn F m:=by unfold Ap xn;simp
theorem MZ(F:V M)(m:M):Ap F m 0=F:=by unfold Ap;simp
theorem HR(hk:k<R w):(Ap w m k)[k]?=J w[k]:=by
 exact D (il (by simp;exact jK _ _)) (D (gy _) (D iA (D (iO (by exact tD [] 0x52048520422 H hk)) (D (iI _) (D (lB) (D (mw _) (D (gM hk) H)))))))
theorem HS(hk:k<R w):Ap w m (k+1)=(Ap w m k).set k (UR w m w[k]):=by
 unfold Ap
 (refine D (kj _ _ (D (gy _) (D iA (jK _ _)))) (D (gy _) (D iA (D (iO (tD [] 0x52048520422 H hk)) (D (iI _) (D (lC hk) (D gF ?_))))));rewrite[gW])
 congr 1
 exact D (jk hk) H
theorem O7(hm:m<R w):(Ap w m k)[m]?=J w[m]:=by
 by_cases h:m<k
 .refine D (hV (D (gy _) (D iA (Nat.lt_min.mpr ⟨h,hm⟩)))) (D (gG) (D (lD h) (D (gM hm) ?_)));simp only[nO,UR,iJ,gM hm,sF.getD_some,Nat.or_self,ite_self]
 .exact D (il (D (gy _) (D iA (gA (jK _ _) (jd h))))) (D (gy _) (D iA (D (iO (by exact uy [] 0x520484304a530423 H hm h)) (D (lB) (D (show k+(m - k)=m by exact gZ (uy [] 0x6290012188500442 H (gO (tD [] 0x520484284a2 H h))) (uy [] 0x5200c12188500462 H (gO (tD [] 0x520484284a2 H h)))) (D (gM hm) H))))))
theorem J4(hl:E l=J (f1 (nL w)))(hz:R w<=1000)(k:RL E K (nL (J1 w))):BD [Y l] E K:=by
 refine Iv (eM (Z H) hl (D (sU _) (D sS (tY [1000,16777216] 0x4240900120402 H hz))) λc hc=>?_);have cl:=c
 refine eU (n:=R w) (rJ (cE (Z H) cF) (tj (sU w) (sa (te ..)))) (tY [1000,1099511627776] 0x4240900120402 H hz)
  (FT (λi ρ s=>∃y z,ρ=[J (Y l),J (Y c),y,z]/\s c=J (f1 (nL ((gN i).foldl xn w)))/\Le E s) (tU _ _ H (te ..) (Le.new hc)) ?_ ?_)
 .rintro i ρ s K' hi ⟨y,z,rfl,hs,hle⟩ hK
  generalize hF:(gN i).foldl xn w=F1 at hs;have hlen:R F1=R w:=tj hF (D (I0 _ _) H)
  refine eU (n:=R F1) (rJ (cE (Z H) cF) (tj (sU F1) (sa hs))) (tD [1000,1099511627776] 0x424090a40880128403 H hz hlen)
   (FT (λj ρ s=>∃z,ρ=[J (Y l),J (Y c),J (f0 i),z]/\s c=J (f1 (nL (Ap F1 i j)))/\Le E s) (tC z H (D (MZ _ _) hs) hle) ?_ ?_)
  .rintro j ρ s1 K1 hj ⟨z,rfl,ε,Tk⟩ ZW
   have hw:UR F1 i F1[j]=if F1[j].testBit i then F1[j]|||F1[i] else F1[j]:=by unfold UR;refine D (iJ) (D (gM (show i<R F1 by exact uy [] 0x5204a62846620423 H hi hlen)) ?_);rfl
   refine cL (t:=F1[j].testBit i) (by
    rw[<- HQ];exact rL (rE (rE (rE (Z H) (Z H) (r5 ε (xk (HR (m:=i) hj)))) (Z H) sk) rD (si (n:=1))) rD rZ) (λhb=>?_) λhb=>?_
   .refine fU (rE (rE (Z H) (Z H) (r5 ε (xk (HR (m:=i) hj)))) (rE (Z H) (Z H) (r5 ε (xk (O7 (k:=j) (show i<R F1 by exact uy [] 0x5204a62846620423 H hi hlen))))) sj) (Z H) (Z H) (NY ε (by (refine D (sU _) ?_;rewrite[I8]);exact hj)) ?_;refine ZW .next _ _ (tC _ H ?_ (Tk.upd hc))
    (rewrite[te];refine D (HS hj) (D hw (D (sI hb) ?_)))
    unfold nL;exact D mP H
   .refine ZW .next _ _ (tC _ H ?_ Tk);refine D (HS hj) (D hw (D (sH (by refine D hb ?_;decide)) (D ε ?_)));have IR:j<R (Ap F1 i j):=by rw[I8];exact hj
    have e:(Ap F1 i j)[j]=F1[j]:=by have:=HR (m:=i) hj;rw[gM IR]at this;exact gv this
    exact tj e (D (mN _) H)
  .rintro ρ s1 ⟨z,rfl,ε,Tk⟩
   refine hK .next _ _ (tU _ _ H ?_ Tk);refine D ll (D mQ (D hF ?_));rw[O6]at ε;exact ε
 .rintro ρ s ⟨y,z,rfl,hs,hle⟩
  exact sP (cP (Z H) (k c s hle hc hs))
theorem tP{α:Type} [Cm α]:∀{l m:V α},l.Nodup->(∀x∈l,x∈m)->R l<=R m
 | [],_,_,_=>gE _
 | a::l,m,hn,h=>by
  have hm:a∈m:=h a gI;have:=tP (iK.mp hn).2 λx hx=>(List.mem_erase_of_ne λ(e:x=a)=>(iK.mp hn).1 (e▸hx)).mpr (h x (gH _ hx))
  rw[List.length_erase_of_mem hm]at this;exact Nat.add_le_of_le_sub (List.length_pos_of_mem hm) this
noncomputable abbrev sX(st s:LH)(l:V (sE×LO)):Prop:=Le st s/\(l.map (·.1)).Nodup/\∀p∈l,s p.1=J p.2/\st p.1=sD
def sX.le{l:V (sE×LO)}(h:sX E s l):=h.1
def sX.nd(h:sX E s pre):=h.2.1
def sX.ZT(h:sX E s pre):=h.2.2
theorem sX.init(st:LH):sX st st []:=⟨Le.refl _,iU,λp h=>by cases h⟩
theorem sX.Zu(h:sX E s pre)(i:M)(e:pre[i]?=J (c,o)):s c=J o:=(h.ZT _ (gz e)).1
theorem sX.fr(h:sX E s pre)(i:M)(e:pre[i]?=J (c,o)):E c=sD:=(h.ZT _ (gz e)).2
theorem sX.new{l:V (sE×LO)}(h:sX E s l)(hc:s c=sD):sX E (ur s c o) ((c,o)::l):=by
 have ul:E c=sD:=by
  cases q:E c with
  | none=>rfl
  | some o=>rw[h.le _ _ q]at hc;exact E9 hc
 have hn:∀p∈l,p.1≠c:=λp hp e=>by rw[<- e,(h.ZT p hp).1]at hc;exact E9 hc
 refine⟨h.le.upd ul,iK.mpr ⟨λhm=>?_,h.nd⟩,λp hp=>?_⟩
 .exact s9 (gL.mp hm) λp hp e=>hn p hp e
 .rcases gX.mp hp with rfl | hp
  .exact⟨te ..,ul⟩
  .exact D (tR (hn p hp)) (h.ZT p hp)
theorem sX.Zz{l:V (sE×LO)}(h:sX E s l)(le:Le s ZJ):sX E ZJ l:=⟨h.le.trans le,h.nd,λp hp=>⟨le _ _ (h.ZT p hp).1,(h.ZT p hp).2⟩⟩
theorem sX.tail{p:sE×LO}(h:sX E s (p::pre)):sX E s pre:=⟨h.le,(iK.mp h.nd).2,λq hq=>h.ZT q (gH _ hq)⟩
theorem sX.set(h:sX E s pre)(i:M)(e:pre[i]?=J (c,o))(o':LO):sX E (ur s c o') (pre.set i (c,o')):=by
 have hi:=(gB.mp e).1;refine⟨h.le.upd (h.fr i e),?_,λp hp=>?_⟩
 .refine D mP ?_
  have:(pre.map (·.1)).set i c=pre.map (·.1):=by
   apply jj;refine λj=>D (jx) ?_
   by_cases q:i=j
   .subst q;refine D (sI H) (D (gy _) (D (sI hi) (D (gG) (D e ?_))));rfl
   .exact(sH q)
  exact D this h.nd
 .refine xE (ie hp) λj hj=>?_
  rw[jx]at hj
  by_cases q:i=j
  .subst q;rw[sI H,sI hi]at hj;refine tj (gv hj) ?_;exact⟨te ..,h.fr i e⟩
  .rw[sH q]at hj;exact D (tR (λr=>q ((jq (D (gy _) hi) h.nd).mp (by refine D (gG) (D (gG) (D e (D hj ?_)));exact sJ J r.symm)))) (h.ZT p (gz hj))
theorem sX.sub{l':V (sE×LO)}(h:sX E s pre)(p:l'.Sublist pre):sX E s l':=⟨h.le,h.nd.sublist (p.map _),λx hx=>h.ZT x (p.mem hx)⟩
theorem sX.ret(h:sX E s pre)(le:Le s ZJ)(hc:s c=sD)(ho:ZJ c=J o):sX E ZJ ((c,o)::pre):=by
 have ul:E c=sD:=by
  cases q:E c with
  | none=>rfl
  | some o=>rw[h.le _ _ q]at hc;exact E9 hc
 refine⟨h.le.trans le,iK.mpr ⟨λhm=>?_,h.nd⟩,λp hp=>?_⟩
 .refine s9 (gL.mp hm) λp hp e=>?_
  have e:p.1=c:=e;rw[<- e,(h.ZT p hp).1]at hc;exact E9 hc
 .rcases gX.mp hp with rfl | hp
  .exact⟨ho,ul⟩
  .exact⟨le _ _ (h.ZT p hp).1,(h.ZT p hp).2⟩
theorem RL.ZC{l:V (sE×LO)}(O:sX E s l)(k:∀c s',sX E s' ((c,f1 vs)::l)->K (Y c) s'):RL s K vs:=λc s' le hc ho=>k c s' (O.ret le hc ho)
theorem sX.none{st s:LH}{l:V (sE×LO)}(h:sX st s l){c:sE}(hc:s c=sD):st c=sD:=by
 cases q:st c with
 | none=>rfl
 | some o=>rw[h.le _ _ q]at hc;exact E9 hc
noncomputable def wg(ua:V sE)(us:M->LO):V (sE×LO):=ua.mapIdx λi a=>(a,us i)
theorem zV{us:M->LO}(h:ua[X]?=J a):(wg ua us)[X]?=J (a,us X):=by unfold wg;refine D (kK) (D h ?_);rfl
theorem FU{us:M->LO}(h:ua[X]?=J a)(o:LO):(wg ua us).set X (a,o)=wg ua (λsC=>if sC=X then o else us sC):=by
 apply jj;intro sC;refine D (jx) (D (kK) (D (kK) (D oV ?_)))
 by_cases e:X=sC
 .subst e;refine D (sI H) (D (sI (gB.mp h).1) (D h ?_));simp
 .refine D (sH e) ?_;simp[Ne.symm e]
theorem CR{us O!:M->LO}(h:∀X,X<R ua->us X=O! X):wg ua us=wg ua O!:=by
 apply jj;intro sC;refine D (kK) (D (kK) ?_)
 rcases iZ sC (R ua) with q | q
 .exact D (h sC q) H
 .refine D (iz q) ?_;rfl
theorem sX.perm{l l':V (sE×LO)}(h:sX E s l)(p:l.Perm l'):sX E s l':=⟨h.le,(p.map _).nodup_iff.mp h.nd,λx hx=>h.ZT x (p.mem_iff.mpr hx)⟩
theorem C8(O:sX E s pre)(h:Ev e ρ s (Y g))(hl:s g=J (f1 vs))(hz:R vs<=2 ^ 24 - 1)
  (k:∀ua c s',R ua=R vs->sX E s' ((c,f1 (ua.map Y))::(pre++wg ua λø=>f1 []))->KE (Y c) s'):rg (qJ e) 1 [] (qF 0) pV (pM pK) ρ s KE:=by
 refine dJ (cX (h _ (Gk hl (EP (λi acc s'=>∃ua,acc=ua.map Y/\R ua=i/\Le s s'/\sX E s' (pre++wg ua λø=>f1 [])) H ⟨[],H,H,Le.refl _,by exact D (show wg [] (λø=>f1 [])=[] from H) (D (gY _) O)⟩ (λi a s' ø ZN=>yf ZN λua ø ø hle ø=>by unfold qD;exact D (hle _ _ hl) H) hz (λi v acc s' jp Ky hv hi ZN ø hy=>yf ZN λua e1 e2 hle hr=>?_) λacc s' hi ZN c hc=>yf ZN λua e1 e2 hle hr=>?_))))
 .refine⟨by decide,λc hc=>hy _ _ ⟨ua++[c],by exact D e1 (D gF H),by exact D gK (D e2 H),hle.trans (Le.new hc),?_⟩⟩;refine(hr.new (o:=f1 []) hc).perm ?_
  (refine D (show wg (ua++[c]) (λø=>f1 [])=wg ua (λø=>f1 [])++[(c,f1 [])] by unfold wg;exact nT) ?_;rewrite[<- gW])
  exact(km _ _).symm
 .refine D e1 ?_;exact k ua c _ e2 (hr.new hc)
theorem dF{y:LV}(O:sX E s pre)(i n:M)(e:pre[i]?=J (c,f1 vs))(hv:Ev ma ρ s y)(ho:Ev mo ρ s (Y c))(hi:Ev mb ρ s (f0 n))(hn:n<R vs)(k:∀s',sX E s' (pre.set i (c,f1 (vs.set n y)))->bb ρ s' Kb):qo (qB mo mb ma) bb ρ s Kb:=
 hv _ (ho _ (hi _ (ti _ (NY (O.Zu i e) hn) (k _ (O.set i e _)))))
theorem cU(O:sX E s pre)(i:M)(e:pre[i]?=J (c,f1 vs))(ho:Ev mo ρ s (Y c))(hv:Ev ma ρ s v)(hz:R vs<=2 ^ 24 - 1)(k:∀s',sX E s' (pre.set i (c,f1 (vs++[v])))->bb ρ s' Kb) :
  qo (qr (qV qT qW mo (pL ma pK))) bb ρ s Kb:=fK ho (O.Zu i e) hv hz (k _ (O.set i e _))
theorem dC{l:V (sE×LO)}(O:sX E s l)(k:∀c s',sX E s' ((c,f1 [])::l)->bb (ρ.set i (J (Y c))) s' Kb):qo (qp i (pM pK)) bb ρ s Kb:=eQ λc hc=>k c _ (O.new hc)
theorem eu(O:sX E s pre)(k:∀c s',sX E s' ((c,f8 [])::pre)->bb (ρ.set i (J (Y c))) s' Kb):qo (qp i pO) bb ρ s Kb:=fD λc hc=>k c _ (O.new hc)
theorem eK(O:sX E s pre)(ho:Ev e ρ s (Y a))(hl:s a=J (f1 vs))(hz:R vs<=th)(k:∀c s',sX E s' ((c,f1 vs)::pre)->bb (ρ.set i (J (Y c))) s' Kb) :
  qo (qp i (rz qO (pL e pK))) bb ρ s Kb:=eM ho hl hz λc hc=>k c _ (O.new hc)
theorem eh{n:M}(O:sX E s pre)(h1:Ev e ρ s v)(h2:∀s',Le s s'->Ev mo ρ s' (f0 n))(hz:n<=2 ^ 24)(k:∀c s',sX E s' ((c,f1 (hU n v))::pre)->KE (Y c) s'):pI p7 (pM (pL e pK)) mo ρ s KE:=
 h1 _ ⟨gQ H,λc hc=>h2 _ (Le.new hc) _ (by
  exact(wU _ (te _ _ _) (ig n) (kD jf hz) (λc2 h2=>D (jl _) (k c2 _ (((O.new hc).new h2).sub (.cons_cons _ (.cons _ (mR _))))))))⟩
theorem fV(O:sX E s pre)(h:Ev e ρ s (Y a))(hl:s a=J (f1 vs))(hz:R vs<=2 ^ 24 - 1)(k:∀ua c s',R ua=R vs->sX E s' ((c,f1 (ua.map Y))::(pre++wg ua λø=>f1 []))->bb (ρ.set i (J (Y c))) s' Kb) :
  qo (qp i (rg (qJ e) 1 [] (qF 0) pV (pM pK))) bb ρ s Kb:=C8 (KE:=λv s'=>bb (ρ.set i (J v)) s' Kb) O h hl hz k
noncomputable def zI{bv:Type}(loc:bv->uZ)(inv:bv->LH->Prop):uZ->LH->Prop:=λρ s=>∃z,ρ=loc z/\inv z s
theorem dq{bv:Type}{loc:bv->uZ}{z0:bv}(inv:M->bv->LH->Prop)(he:Ev e (loc z0) s (Y l))(hl:∀i z s,inv i z s->s l=J (f1 vs))(h0:inv 0 z0 s)
  (step:∀i v z s (K':KS),vs[i]?=J v->inv i z s->(∀fl em s',ue (zI loc (inv (i+1))) Kb fl em s'->K' fl em s')->bb ((loc z).set k (J v)) s K')
  (fin:∀z s,inv (R vs) z s->Kb .next (loc z) s):qI (qJ e) (qF k) bb (loc z0) s Kb:=
 f9 he (hl _ _ _ h0) (Ly (λi=>zI loc (inv i)) ⟨z0,H,h0⟩ (λi ρ s ZN=>s9 ZN λz ø h=>hl _ _ _ h) (λi v ρ s K' hv ZN hK=>s9 ZN λz e h=>e▸step i v z s K' hv h hK) λρ s ZN=>s9 ZN λz e h=>e▸fin z s h)
theorem dM{bv:Type}{loc:bv->uZ}{z0:bv}(inv:M->bv->LH->Prop)(he:Ev e (loc z0) s (Y l))(hl:∀i z s,inv i z s->s l=J (f1 vs))(h0:inv 0 z0 s)
  (step:∀i v z s (K':KS),vs[i]?=J v->inv i z s->(∀fl em s',ue (zI loc (inv (i+1))) Kb fl em s'->K' fl em s')->∃x y,v=f2 [x,y]/\bb (((loc z).set k (J x)).set j (J y)) s K')
  (fin:∀z s,inv (R vs) z s->Kb .next (loc z) s):qI (qJ e) (qG k j) bb (loc z0) s Kb:=
 fW he (hl _ _ _ h0) (IY (λi=>zI loc (inv i)) ⟨z0,H,h0⟩ (λi ρ s ZN=>s9 ZN λz ø h=>hl _ _ _ h) (λi v ρ s K' hv ZN hK=>s9 ZN λz e h=>e▸step i v z s K' hv h hK) λρ s ZN=>s9 ZN λz e h=>e▸fin z s h)
theorem dV{bv:Type}{loc:bv->uZ}{z0:bv}(inv:M->bv->LH->Prop)(he:Ev e (loc z0) s (f2 vs))(h0:inv 0 z0 s)
  (step:∀i v z s (K':KS),vs[i]?=J v->inv i z s->(∀fl em s',ue (zI loc (inv (i+1))) Kb fl em s'->K' fl em s')->bb ((loc z).set k (J v)) s K')
  (fin:∀z s,inv (R vs) z s->Kb .next (loc z) s):qI (qJ e) (qF k) bb (loc z0) s Kb:=
 f6 he (SK (λi=>zI loc (inv i)) ⟨z0,H,h0⟩ (λi v ρ s K' hv ZN hK=>s9 ZN λz e h=>e▸step i v z s K' hv h hK) λρ s ZN=>s9 ZN λz e h=>e▸fin z s h)
theorem dH{bv:Type}{loc:bv->uZ}{z0:bv}{n:M}(inv:M->bv->LH->Prop)(he:Ev e (loc z0) s (f0 n))(hz:n<=2 ^ 40)(h0:inv 0 z0 s)
  (step:∀i z s (K':KS),i<n->inv i z s->(∀fl em s',ue (zI loc (inv (i+1))) Kb fl em s'->K' fl em s')->bb ((loc z).set k (J (f0 i))) s K')
  (fin:∀z s,inv n z s->Kb .next (loc z) s):qI (qL e) (qF k) bb (loc z0) s Kb:=
 eU he hz (FT (λi=>zI loc (inv i)) ⟨z0,H,h0⟩ (λi ρ s K' hv ZN hK=>s9 ZN λz e h=>e▸step i z s K' hv h hK) λρ s ZN=>s9 ZN λz e h=>e▸fin z s h)
theorem L.Do{bv:Type}{loc:bv->uZ}{z0:bv}(inv:M->bv->LH->Prop){m0:M}(h0:inv m0 z0 s)
  (step:∀m z s,inv m z s->∃t,EvB mc (loc z) s t/\(t=pH->∀Kb:KS,(∀fl em s',ue (zI loc λz s=>∃m',m'<m/\inv m' z s) K' fl em s'->Kb fl em s')->bb (loc z) s Kb)/\(t=Zt->K' .next (loc z) s)):qw mc bb (loc z0) s K':=
 fI (λm=>zI loc (inv m)) ⟨z0,H,h0⟩ λm ρ s ZN=>s9 ZN λz e h=>by
  refine D e ?_;refine tW (step m z s h) λt h1 h2 h3=>(tC t h1 (λht Kb hK=>h2 ht Kb λfl em s' hl=>hK fl em s' ?_) h3)
  cases fl with
  | next=>(refine s9 hl λz e r9=>s9 r9 λm' a bb=>?_);exact(vA m' a z e bb)
  | cont=>(refine s9 hl λz e r9=>s9 r9 λm' a bb=>?_);exact(vA m' a z e bb)
  | brk=>exact hl
  | ret v=>exact hl
theorem dY{bv:Type}{loc:bv->uZ}{z0:bv}(h:GX E g G x)(inv:M->bv->LH->Prop)(he:Ev e (loc z0) s (Y x.aX))(le:∀i z s,inv i z s->Le E s)(h0:inv 0 z0 s)
  (step:∀i a d ZM z s (K':KS),i<R G.ZF->E a=J (f4 87 d [f0 i,f0 (G.ZE i),f2 (nL (G.Zv i)),ZM,.none,f0 0,f0 0])->inv i z s->(∀fl em s',ue (zI loc (inv (i+1))) Kb fl em s'->K' fl em s')->bb ((loc z).set k (J (Y a))) s K')
  (fin:∀z s,inv (R G.ZF) z s->Kb .next (loc z) s):qI (qJ e) (qF k) bb (loc z0) s Kb:=by
 have hlen:R (x.aY.map Y)=R G.ZF:=D (gy _) (h.ν);refine dq inv he (λi z s hi=>le i z s hi _ _ h.Z2) h0 (λi v z s K' hv hi hK=>?_) (D hlen fin);have U':i<R G.ZF:=tj hlen ((gB.mp hv).1);rw[gG]at hv;exact vp v (gR.mp hv) λa ha=>KC (h.ru i a ha) λd ZM q=>step i a d ZM z s K' U' q hi hK
structure Ag where
 ae:sE
 az:sE
 aE:sE
 au:sE
 ai:sE
 af:sE
 aL:V sE
 aH:V sE
variable {gk:Ag}
structure Zg where
 n:M
 aA:M
 ah:M
 ag:V M
 aK:V M
 af:M->M
 us:M->V M
 x0:sF LV
 a5:sF LV
 bM:sF LV
 bc:sF LV
 bZ:sF LV
 b6:sF LV
variable {z:Zg}
noncomputable def Gl(G:Gm)(X:M):Prop:=∀C:M->Prop,(∀{r},r<R G.ZF->(∀s∈G.Zv r,C s)->C (G.ZE r))->C X
theorem Gl.mk(hr:r<R G.ZF)(h:∀s∈G.Zv r,Gl G s):Gl G (G.ZE r):=λC k=>k hr λs hs=>h s hs C k
open Classical in
noncomputable def vU(G:Gm)(X:M):bn:=b8 (Gl G X)
noncomputable def D0(G:Gm):V LV:=(gN (R G.ZH)).map λX=>ii (vU G X)
noncomputable def O8(n:M)(q:V M):V LV:=(gN n).map λX=>ii (q.contains X)
theorem SO(n:M):O8 n []=hU n (ii Zt):=by
 unfold O8;have e:(λX:M=>ii (([]:V M).contains X))=λø=>ii Zt:=by funext X;rfl
 exact D e (D lE (D iq H))
theorem HT{q:V M}(h:X<i):(O8 i q)[X]?=J (ii (q.contains X)):=by unfold O8;refine D (gG) (D (kJ h) ?_);rfl
theorem Aq(n:M)(q:V M):R (O8 n q)=n:=by unfold O8;exact D (gy _) (iq)
theorem N0:(O8 t w).set X (ii pH)=O8 t (w++[X]):=by
 apply jj;refine λi=>D (jx) (D (Aq _ _) ?_)
 by_cases hi:i<t
 .refine D (HT hi) (D (HT hi) ?_)
  by_cases e:X=i
  .subst e;refine D (sI H) (D (sI hi) ?_);simp
  .refine D (sH e) ?_;simp[Ne.symm e]
 .refine D (iz (D (Aq _ _) (tD [] 0x520484284a2 H hi))) (D (iz (D (Aq _ _) (tD [] 0x520484284a2 H hi))) ?_)
  by_cases e:X=i
  .subst e;exact D (sI H) ((sH hi))
  .exact(sH e)
theorem SP(h:∀X,X∈w<->Gl G X):O8 (R G.ZH) w=D0 G:=by
 apply k9;intro X _
 congr 1
 exact AU jG (AU lg ((h X).trans (@u2 _ (nr _)).symm))
noncomputable def rM(n:M)(f:M->LV):V LV:=(gN n).map f
theorem uJ{n:M}{f:M->LV}:R (rM n f)=n:=by unfold rM;exact D (gy _) (iq)
theorem ux{f:M->LV}(h:i<t):(rM t f)[i]?=J (f i):=by unfold rM;refine D (gG) (D (kJ h) ?_);rfl
theorem Lz{f g:M->LV}(h:∀i,i<t->f i=g i):rM t f=rM t g:=k9 λi hi=>h i (iM.mp hi)
theorem Qz{f:M->LV}:(rM t f).set i v=rM t (λj=>if j=i then v else f j):=by
 apply jj;refine λj=>D (jx) (D uJ ?_)
 rcases iZ j t with hj | hj
 .refine D (ux hj) (D (ux hj) ?_)
  by_cases e:i=j
  .exact D (sI e) (D (sI (e▸hj)) (D (sI e.symm) H))
  .exact D (sH e) (D (sH (Ne.symm e)) H)
 .refine D (iz (D uJ hj)) (D (iz (D uJ hj)) ?_)
  by_cases e:i=j
  .exact D (sI e) ((sH (by exact D e (jv.mpr hj))))
  .exact(sH e)
theorem G1{f:M->LV}:rM (i+1) f=rM i f++[f i]:=by unfold rM;exact D ll (gF)
theorem BN:(rM i λt=>f0 (F t:M)).set r (f0 X)=rM i λt=>f0 ((if t=r then X else F t:M):al):=by
 refine D Qz ?_;exact Lz λt ø=>by split<;>rfl
theorem wa(h:(nL w)[i]?=J v):∃n,w[i]?=J n/\v=f0 (n:al):=by
 unfold nL at h;rw[gG]at h;exact s9 (gR.mp h) λn a b=>(ti n a b.symm)
noncomputable def out(S l:V M):M:=l.countP λs=>!S.contains s
theorem SQ(l:V M):out [] l=R l:=List.countP_eq_length.mpr λa ø=>rfl
theorem LC(h:i∉w)(l:V M):out w l=out (w++[i]) l+l.count i:=by
 induction l with
 | nil=>rfl
 | cons a l ih=>
  unfold out at ih ⊢;refine D List.countP_cons (D List.countP_cons (D List.count_cons (D ih ?_)))
  by_cases e:a=i
  .subst e;exact D (sI (D (kX.mpr λq=>h (lg.mp q)) H)) (D (sH λq=>ft ((sJ (!·) (lg.mpr (gU w (iE a)))).symm.trans q)) (D (sI (tJ a)) H))
  .exact D (show(w++[i]).contains a=w.contains a from jG.mpr (lg.trans (gP.trans (Iff.trans ⟨λh=>h.elim id λq=>(e (gJ.mp q)).elim,.inl⟩ lg.symm)))) (D (sH λq=>e (eq_of_beq q)) (nh ..))
theorem QA(h:out w ts=0):∀s∈ts,s∈w:=λs hs=>by
 simpa using (oW.mp h s hs)
theorem O9(h:∀s∈ts,s∈w):out w ts=0:=oW.mpr λs hs=>by simpa using h s hs
noncomputable def IB(G:Gm):M->M->V M
 | 0,_=>[]
 | i+1,X=>IB G i X++hU ((G.Zv i).count X) i
theorem QB:IB G (i+1) X=IB G i X++hU ((G.Zv i).count X) i:=H
theorem FV(G:Gm)(X r:M):∀i,(IB G i X).count r=if r<i then (G.Zv r).count X else 0
 | 0=>(sH (iF _)).symm
 | i+1=>by
  (rewrite[QB];refine D l0 (D (FV G X r i) (D List.count_replicate ?_)))
  by_cases h:r<i
  .exact D (sI h) (D (sH (by simpa using (jh h).symm)) (D (sI (by exact tD [1] 0x4a0204a520422 H h)) H))
  .refine D (sH h) ?_
   by_cases e:r=i
   .subst e;exact D (sI (by simp)) (D (sI (by exact tY [1] 0x480204a1 H)) (D (iB _) H))
   .exact D (sH (by simpa using Ne.symm e)) (D (sH λh'=>e (Nat.eq_of_lt_succ_of_not_lt h' h)) H)
theorem G2{G:Gm}{X r:M}:∀{i},r∈IB G i X->r<i
 | 0,h=>by cases h
 | i+1,h=>by
  rw[QB]at h
  rcases gP.mp h with h | h
  .exact ja (G2 h)
  .exact D ((List.mem_replicate.mp h).2) (iC _)
theorem LD(G:Gm)(X:M)(B:M)(h:∀r,R (G.Zv r)<=B):∀i,R (IB G i X)<=i*B
 | 0=>gE _
 | i+1=>by
  (rewrite[QB];refine D gK (D jA (D (ko _ _) ?_)))
  exact jE (LD G X B h i) (gA oX (h i))
structure Gm.Sm (G:Gm):Prop where
 n:R G.ZH<=8
 aa:G.aa<=R G.ZH
 aO:R G.ZF<=5
 au:∀r,R (G.Zv r)<=3
 lf:∀r,r<R G.ZF->G.ZE r<R G.ZH
 rt:∀r,r<R G.ZF->∀s∈G.Zv r,s<R G.ZH
 tot:((gN (R G.ZF)).map λr=>R (G.Zv r)).sum<=10
theorem Gm.Sm.ZT(h:G.Sm)(hr:r<R G.ZF)(e:(G.Zv r)[i]?=J t):t<R G.ZH:=h.rt r hr t (gz e)
noncomputable abbrev J5(G:Gm)(q S:V M)(f:M->M):Prop:=q.Nodup/\(∀X∈q,X<R G.ZH/\Gl G X)/\(∀r,r<R G.ZF->f r=0->G.ZE r∈q)/\∀X∈S,X∈q
def J5.nd(h:J5 G w ts F):=h.1
def J5.nul(h:J5 G w ts F):=h.2.1
def J5.cl(h:J5 G w ts F):=h.2.2.1
def J5.sub(h:J5 G w ts F):=h.2.2.2
theorem J5.add(h:J5 G w ts F)(f':M->M)(hr:r<R G.ZF)(hS:G.Sm)(hn:G.ZE r∉w)(hz:∀s∈G.Zv r,s∈w)(hf:∀t,t<R G.ZF->t≠r->f' t=F t):J5 G (w++[G.ZE r]) ts f':=
 ⟨iP.mpr (uS h.nd (u5 _) (λa ha b hb e=>by rw[gJ]at hb;exact hn (hb▸e▸ha))),
 λX hX=>by
  rcases gP.mp hX with hX | hX
  .exact h.nul X hX
  .rw[gJ]at hX;refine D hX ?_;exact⟨hS.lf r hr,.mk hr λs hs=>(h.nul s (hz s hs)).2⟩,
 λt ht h0=>by
  by_cases e:t=r
  .exact gU _ (e▸iE _)
  .exact gV _ (h.cl t ht (hf t ht e▸h0)),
 λX hX=>gV _ (h.sub X hX)⟩
theorem J5.same(h:J5 G w ts F)(f':M->M)(hf:∀t,t<R G.ZF->t≠r->f' t=F t)(hr:f' r=0->G.ZE r∈w)(hS:∀X∈w0,X∈w):J5 G w w0 f':=
 ⟨h.nd,h.nul,λt ht h0=>by
  by_cases e:t=r
  .obtain rfl:=e.symm;exact hr h0
  .exact h.cl t ht (hf t ht e▸h0),hS⟩
theorem J5.len(h:J5 G w ts F):R w<=R G.ZH:=by
 have:=tP h.nd λX hX=>iM.mpr (h.nul X hX).1
 rw[iq]at this;exact this
noncomputable def SS(G:Gm)(i j X:M):V M:=IB G i X++hU (((G.Zv i).take j).count X) i
theorem LF(G:Gm)(i X:M):SS G i 0 X=IB G i X:=gY _
theorem SU(G:Gm)(i X:M):SS G i (R (G.Zv i)) X=IB G (i+1) X:=by unfold SS;exact D ic H
theorem QC(h:(G.Zv i)[j]?=J t)(X:M):SS G i (j+1) X=if X=t then SS G i j X++[i] else SS G i j X:=by
 unfold SS;refine xE (gB.mp h) λhj e=>?_
 refine D (lC hj) (D e (D l0 (D oY ?_)))
 by_cases q:X=t
 .refine D q.symm ?_;rw[sI H,sI (by simp),List.replicate_succ',gW]
 .exact D (sH q) (D (sH (by simpa using Ne.symm q)) H)
theorem SV(hS:G.Sm)(hi:i<5)(j X:M):R (SS G i j X)<=18:=
 D gK (D jA (uy [5,3,18] 0x104a40048109420304640800130c24 H hi (LD G X 3 hS.au i) (gA oX (gA (D iA (iT ..)) (hS.au i)):(((G.Zv i).take j).count X)<=3)))
noncomputable def J6.ZA(A:Ag)(z:Zg):uZ:=[J (Y A.ae),J (Y A.az),J (Y A.aE),J (Y A.au),J (Y A.ai),J (Y A.af),z.x0,z.a5,z.bM,z.bc,z.bZ,z.b6]
noncomputable def J6.ZC(n:M)(A:Ag)(z:Zg):V (sE×LO):=(A.af,f1 (nL z.aK))::(A.ai,f1 (A.aL.map Y))::(A.au,f1 (rM z.n λr=>f0 (z.af r:M)))::(A.aE,f1 (O8 n z.aK))::wg A.aL λX=>f1 (nL (z.us X))
theorem fE(h:gk.aL[X]?=J a):(J6.ZC i gk z)[X+4]?=J (a,f1 (nL (z.us X))):=zV h
noncomputable abbrev LG(G:Gm)(A:Ag)(st:LH)(q:V M)(u at_:M)(j:M)(z:Zg)(s:LH):Prop:=sX st s (J6.ZC (R G.ZH) A z)/\J5 G z.aK (q.take at_) z.af/\z.n=R G.ZF/\z.us=IB G (R G.ZF)/\z.bc=J (f0 at_)/\(∀r,r<R G.ZF->z.af r=out (q.take at_) (G.Zv r) - ((IB G (R G.ZF) u).take j).count r)/\∃ex,z.aK=q++ex
def LG.ZC(h:LG G gk E w i t j z s):=h.1
def LG.sp(h:LG G gk E w i t j z s):=h.2.1
def LG.n(h:LG G gk E w i t j z s):=h.2.2.1
def LG.us(h:LG G gk E w i t j z s):=h.2.2.2.1
def LG.bc(h:LG G gk E w i t j z s):=h.2.2.2.2.1
def LG.af(h:LG G gk E w i t j z s):=h.2.2.2.2.2.1
def LG.ex(h:LG G gk E w i t j z s):=h.2.2.2.2.2.2
noncomputable abbrev I9(G:Gm)(A:Ag)(st:LH)(m:M)(z:Zg)(s:LH):Prop:=sX st s (J6.ZC (R G.ZH) A z)/\J5 G z.aK (z.aK.take z.aA) z.af/\z.n=R G.ZF/\z.us=IB G (R G.ZF)/\z.bc=J (f0 z.aA)/\(∀r,r<R G.ZF->z.af r=out (z.aK.take z.aA) (G.Zv r))/\z.aA<=R z.aK/\m=R G.ZH - z.aA
def I9.ZC(h:I9 G gk E m z s):=h.1
def I9.sp(h:I9 G gk E m z s):=h.2.1
def I9.n(h:I9 G gk E m z s):=h.2.2.1
def I9.us(h:I9 G gk E m z s):=h.2.2.2.1
def I9.bc(h:I9 G gk E m z s):=h.2.2.2.2.1
def I9.af(h:I9 G gk E m z s):=h.2.2.2.2.2.1
def I9.le(h:I9 G gk E m z s):=h.2.2.2.2.2.2.1
def I9.aA(h:I9 G gk E m z s):=h.2.2.2.2.2.2.2
theorem SW(hu:i∉w)(hj:(IB G (R G.ZF) i)[j]?=J r)(f:M->M)(hf:∀r,r<R G.ZF->f r=out w (G.Zv r) - ((IB G (R G.ZF) i).take j).count r) :
  (∀t,t<R G.ZF->(if t=r then f r - 1 else f t)=out w (G.Zv t) - ((IB G (R G.ZF) i).take (j+1)).count t)/\(f r≠0)/\(f r - 1=0->∀s∈G.Zv r,s∈w++[i]):=by
 have η:=FV G i r (R G.ZF);have η:=sI (G2 (gz hj))▸η;have Ø:=LC hu (G.Zv r)
 have L!:∀t,((IB G (R G.ZF) i).take (j+1)).count t=((IB G (R G.ZF) i).take j).count t+if r=t then 1 else 0:=λt=>by
  refine D (lC ((gB.mp hj).1)) (D ((gB.mp hj).2) (D l0 (D oY ?_)))
  by_cases e:r=t
  .exact D (sI e) (D (sI (by simpa using e)) H)
  .exact D (sH e) (D (sH (by simpa using e)) H)
 have hle:((IB G (R G.ZF) i).take (j+1)).count r<=(IB G (R G.ZF) i).count r:=(List.take_sublist ..).count_le _;have up:=L! r;have up:=sI H▸up;have hr:=hf r (G2 (gz hj));refine(uS (λt Â=>?_) (YV [1,0] 0x1090223a96008d6408c015012119521019003846628447 H η Ø hle up hr (gO (Wq [1] 0xc9090014810119101014e03046520445 H η Ø hle up))) (λh=>QA (gZ (Zd [1,0] 0x1090245002c004674ac011842c0896a08c014810119501018803846628449 H η Ø hle up hr h (gO (Wq [1] 0xe9090014810119501018803846628445 H η Ø hle up)) (gO (YV [1] 0xa004243a56008d6a08c014810119501018803846628447 H η Ø hle up hr (gO (Wq [1] 0xe9090014810119501018803846628445 H η Ø hle up))))) (tY [0] 134251649 H))));refine D (L! _) ?_
 by_cases e:t=r
 .refine tj e.symm ?_;exact D (sI H) (D (sI H) ((sJ (· - 1) hr).trans (Nat.sub_sub ..)))
 .exact D (sH e) (D (sH (Ne.symm e)) (hf t Â))
theorem ez(h:i≠0):((i:M):al) - 1=(i - 1:M):=(Int.ofNat_sub (kY h)).symm
theorem ER(h:decide ((i:al)=0)=pH):i=0:=iQ (sQ h)
theorem Xe(h:GX E gk.ae G x)(hS:G.Sm)(hA:R gk.aL=R G.ZH)(hb:gk.aL[i]?=J g)(hq:w[X]?=J i)(hu:i∉w.take X)(hv:(nL (IB G (R G.ZF) i))[j]?=J v)(I:LG G gk E w i X j z s)
  (hK:∀fl em s',ue (zI (J6.ZA gk) (LG G gk E w i X (j+1))) (A3 Ey Kb) fl em s'->K' fl em s'):Du ((J6.ZA gk z).set 10 (J v)) s K':=by
 refine Bt v (wa hv) λr K_=>?_
 have sK:=G2 (gz K_);refine zY (SW hu K_ z.af I.af) λF_ np hz=>dF I.ZC 2 r H (y:=f0 (z.af r - 1:M)) (tj (ez np) (rE (rE (Z H) (Z H) (r5 (I.ZC.Zu 2 H) (ux (f:=λr=>f0 (z.af r:M)) (I.n▸sK)))) rD rV)) (Z H) (Z H) (D uJ (D I.n sK)) λs O=>?_
 rw[BN]at O;replace O:sX E s (J6.ZC (R G.ZH) gk {z with af:=λt=>if t=r then z.af r - 1 else z.af t}):=O;refine vL ((h.Zz O.le).rule sK) λa d ZM ha ol=>cI (rH (rE (rH (Z H) (rT ((h.Zz O.le).hg) H)) (Z H) (r5 ((h.Zz O.le).Z2) (vl ha))) (rT ol H)) (sP ?_)
 refine xE I.ex λex hex=>cL (rO (rL (rE (Z H) (Z H) (r5 (O.Zu 2 H) (ux (f:=λt=>f0 ((if t=r then z.af r - 1 else z.af t:M):al)) (I.n▸sK)))) rD rZ) λø=>rO (rN (rS (rE (Z H) (Z H) (r5 (O.Zu 3 H) (HT (q:=z.aK) (hS.lf r sK)))))) λø=>rR) (λhb=>?_) λhb=>?_
 .refine xA (iL.mp hb) λe1 e2=>?_
  have e1:=ER e1;rw[sI H]at e1;refine dF O 3 (G.ZE r) H rD (Z H) (Z H) (D (Aq _ _) (hS.lf r sK)) λs O=>cU O 0 H (Z H) (Z H) (D (sU _) (gA I.sp.len (gA hS.n (by decide)))) λs O=>?_
  rw[N0,wQ]at O;refine hK .next _ _ (ti ({z with aK:=z.aK++[G.ZE r],af:=λt=>if t=r then z.af r - 1 else z.af t,bZ:=J (f0 r),b6:=J (f0 (G.ZE r))}) H ⟨O,?_,I.n,I.us,I.bc,F_,ex++[G.ZE r],by rw[hex,gW]⟩);refine I.sp.add _ sK hS (by simpa using e2) (λt ht=>?_) λt ø ne=>sH ne
  rcases gP.mp (hz e1 t ht) with m | m
  .exact I.sp.sub t m
  .rw[gJ]at m;exact D m (D hex (gV _ (gz hq)))
 .refine hK .next _ _ (ti ({z with af:=λt=>if t=r then z.af r - 1 else z.af t,bZ:=J (f0 r),b6:=J (f0 (G.ZE r))}) H ⟨O,?_,I.n,I.us,I.bc,F_,ex,hex⟩);refine I.sp.same _ (λt ø ne=>sH ne) (λh0=>?_) I.sp.sub
  by_cases e:G.ZE r∈z.aK
  .exact e
  .have h0:(if r=r then z.af r - 1 else z.af r)=0:=h0;rw[h0]at hb;simp[e]at hb
theorem yp(hq:w[t]?=J X)(nd:w.Nodup):X∉w.take t:=λhm=>by
 refine xE (ie hm) λi hi=>?_
 have U':=(gB.mp hi).1;have U':=iA▸U';rw[lD (ij U' (jK _ _))]at hi;exact iV _ (((jq (ij U' (iT _ _)) nd).mp (hi.trans hq.symm))▸ij U' (jK _ _))
theorem SX(hq:w[i]?=J t):(w++ts).take (i+1)=w.take i++[t]:=by
 refine xE (gB.mp hq) λZY e=>?_
 exact D (List.take_append_of_le_length ZY) (D (lC ZY) (D e H))
theorem VG(h:GX E gk.ae G x)(hS:G.Sm)(hA:R gk.aL=R G.ZH)(I:I9 G gk E m z s)(ZY:z.aA<R z.aK)
  (hK:∀fl em s',ue (zI (J6.ZA gk) λz s=>∃m',m'<m/\I9 G gk E m' z s) (A3 Hv TW) fl em s'->Kb fl em s'):Gg (J6.ZA gk z) s Kb:=by
 have hq:=gM ZY;generalize z.aK[z.aA]=u at hq;refine xE (⟨_,gM (hA▸((I.sp.nul u (gz hq)).1))⟩ : ∃b,gk.aL[u]?=J b) λb hb=>?_
 refine dq (LG G gk E z.aK u z.aA) (rE (Z H) (rE (Z H) (Z (sJ J I.bc)) (r5 (I.ZC.Zu 0 H) (xk hq))) (r5 (I.ZC.Zu 1 H) (vl hb))) (λj z s rC=>by have:=rC.ZC.Zu _ (fE hb);rw[rC.us]at this;exact this) ⟨I.ZC,?_,I.n,I.us,I.bc,?_,[],(gY _).symm⟩ (λj v z' s K' hv rC hK=>Xe h hS hA hb hq (yp hq I.sp.nd) hv rC hK) λz' s rC=>?_
 .exact I.sp
 .exact I.af
 .refine xE rC.ex λex hex=>?_
  rw[sU]at rC;have e1:z'.aK.take (z.aA+1)=z.aK.take z.aA++[u]:=D hex (SX hq);refine cJ (cI (rE (Z (sJ J rC.bc)) rD rU) (sP (hK .next _ _ (vA ({z' with aA:=z.aA+1,bc:=J (f0 (z.aA+1:M))}) H (R G.ZH - (z.aA+1)) (D I.aA (Nat.sub_succ_lt_self _ _ (ij ZY I.sp.len))) ⟨rC.ZC,⟨rC.sp.nd,rC.sp.nul,rC.sp.cl,λX hX=>?_⟩,rC.n,rC.us,H,λr hr=>?_,(D hex (D gK (Nat.le_add_right_of_le ZY)):z.aA+1<=R z'.aK),H⟩))))
  .rw[show({z' with aA:=z.aA+1,bc:=J (f0 (z.aA+1:M))}:Zg).aK=z'.aK from H,e1]at hX;refine(gP.mp hX).elim (λm=>?_) λm=>?_
   .exact rC.sp.sub X m
   .rw[gJ]at m;exact D m (D hex (gV _ (gz hq)))
  .refine(rC.af r hr).trans ?_
   (refine D (show({z' with aA:=z.aA+1,bc:=J (f0 (z.aA+1:M))}:Zg).aK=z'.aK from H) (D e1 (D ic ?_));rewrite[FV];refine D (sI hr) (D (LC (yp hq I.sp.nd) (G.Zv r)) ?_))
   exact nU ..
theorem Yx(h:GX E gk.ae G x)(hS:G.Sm)(hA:R gk.aL=R G.ZH)(I:I9 G gk E m z s)(k:RL E K (D0 G)):Hw (J6.ZA gk z) s (tB K):=by
 refine L.Do (I9 G gk E) I λm z s I=>(tC _ (rL (Z (sJ J I.bc)) (rJ (cE (Z H) cF) (sa (I.ZC.Zu 0 H))) rX) (λZY Kb G'=>VG h hS hA I ?_ G') (λR'=>?_))
 .have:=sQ ZY;rw[sU]at this;exact g8.mp this
 .have R':R z.aK<=z.aA:=by have:=sW R';rw[sU]at this;exact jd λh=>this (g8.mpr h)
  refine sP (cP (Z H) ?_);have e:=I.ZC.Zu 3 H;rw[SP λX=>⟨λhX=>(I.sp.nul X hX).2,λhX=>?_⟩]at e
  .exact k gk.aE s I.ZC.le (I.ZC.fr 3 H) e
  .exact hX (·∈z.aK) λ{r} hr ih=>I.sp.cl _ hr ((I.af _ hr).trans (O9 λs hs=>D (jT R') (ih s hs)))
noncomputable abbrev PG(G:Gm)(A:Ag)(st:LH)(i:M)(z:Zg)(s:LH):Prop:=sX st s (J6.ZC (R G.ZH) A z)/\(J5 G z.aK [] λr=>if r<i then R (G.Zv r) else 1)/\z.n=R G.ZF/\z.us=IB G (R G.ZF)/\(z.af=λr=>R (G.Zv r))
def PG.ZC(h:PG G gk E i z s):=h.1
def PG.sp(h:PG G gk E i z s):=h.2.1
def PG.n(h:PG G gk E i z s):=h.2.2.1
def PG.us(h:PG G gk E i z s):=h.2.2.2.1
def PG.af(h:PG G gk E i z s):=h.2.2.2.2
theorem N1(ne:t≠i):(if t<i+1 then X else m)=if t<i then X else m:=by
 by_cases e:t<i
 .exact D (sI e) ((sI (ja e)))
 .exact D (sH e) ((sH λq=>ne (gZ (kM.mp q) (jv.mp e))))
theorem Yy(h:GX E gk.ae G x)(hS:G.Sm)(hA:R gk.aL=R G.ZH)(I:PG G gk E 0 z s)(k:RL E K (D0 G)):Hx (J6.ZA gk z) s (tB K):=by
 refine dY h (PG G gk E) (rH (Z H) (rT (I.ZC.le _ _ h.hg) H)) (λi z s I=>I.ZC.le) I (λi a d ZM z s K' hi v6 I hK=>?_) λz s I=>?_
 .have ha:=I.ZC.le _ _ v6;refine cL (rO (rL (rE (Z H) (rH (Z H) (rT ha H)) (r5 (I.ZC.Zu 2 H) (ux (f:=λr=>f0 (z.af r:M)) (I.n▸hi)))) rD rZ) λø=>rO (rN (rS (rE (Z H) (rH (Z H) (rT ha H)) (r5 (I.ZC.Zu 3 H) (HT (q:=z.aK) (hS.lf i hi)))))) λø=>rR) (λhb=>?_) λhb=>?_
  .refine xA (iL.mp hb) λe1 e2=>dF I.ZC 3 (G.ZE i) H rD (Z H) (rH (Z H) (rT ha H)) (D (Aq _ _) (hS.lf i hi)) λs O=>?_
   refine cU O 0 H (Z H) (rH (Z H) (rT (O.le _ _ v6) H)) (D (sU _) (gA I.sp.len (gA hS.n (by decide)))) λs O=>?_
   rw[N0,wQ]at O;exact hK .next _ _ (ti ({z with aK:=z.aK++[G.ZE i],x0:=J (Y a)}) H ⟨O,I.sp.add _ hi hS (by simpa using e2) (λt ht=>by have ht:=List.eq_nil_of_length_eq_zero (I.af▸(ER e1))▸ht;cases ht) λt ht ne=>N1 ne,I.n,I.us,I.af⟩)
  .refine hK .next _ _ (ti ({z with x0:=J (Y a)}) H ⟨I.ZC,I.sp.same _ (λt ht ne=>N1 ne) (λh0=>?_) (λX h=>by cases h),I.n,I.us,I.af⟩);have h0:=sI (iC _)▸h0
   by_cases e:G.ZE i∈z.aK
   .exact e
   .have hb:=(show(λr=>R (G.Zv r)) i=0 from h0)▸I.af▸hb;simp[e]at hb
 .refine sP (cI rD (sP (Yx (z:={z with aA:=0,bc:=J (f0 0)}) h hS hA ⟨I.ZC,⟨I.sp.nd,I.sp.nul,λr hr h0=>I.sp.cl r hr (D (sI hr) ((vE I.af r).symm.trans h0)),λX h=>by cases h⟩,I.n,I.us,H,λr ø=>by refine D I.af ?_;exact(SQ _).symm,gE _,H⟩ k)))
noncomputable abbrev M0(G:Gm)(A:Ag)(st:LH)(i j:M)(z:Zg)(s:LH):Prop:=sX st s (J6.ZC (R G.ZH) A z)/\z.aK=[]/\z.n=i/\(∀X,z.us X=SS G i j X)/\(z.af=λr=>R (G.Zv r))/\z.a5=J (f0 j)
def M0.ZC(h:M0 G gk E i j z s):=h.1
def M0.aK(h:M0 G gk E i j z s):=h.2.1
def M0.n(h:M0 G gk E i j z s):=h.2.2.1
def M0.us(h:M0 G gk E i j z s):=h.2.2.2.1
def M0.af(h:M0 G gk E i j z s):=h.2.2.2.2.1
def M0.a5(h:M0 G gk E i j z s):=h.2.2.2.2.2
theorem Yz{A:Ag}(h:GX E A.ae G x)(hS:G.Sm)(hA:R A.aL=R G.ZH)(O:sX E s (J6.ZC (R G.ZH) A z))(hq:z.aK=[])(hn:z.n=0)(hu:z.us=λø=>[])(hf:z.af=λr=>R (G.Zv r))(k:RL E K (D0 G)):Hy (J6.ZA A z) s (tB K):=by
 refine dY h (λi z s=>∃x,M0 G A E i 0 {z with a5:=x} s) (rH (Z H) (rT (O.le _ _ h.hg) H)) (λi z s ZN=>xE ZN λø I=>I.ZC.le) ⟨J (f0 0),O,hq,hn,λX=>D hu H,hf,H⟩ (λi a d ZM z s K' hi v6 ZN hK=>xE ZN λx I=>?_) λz s ZN=>xE ZN λx I=>?_
 .refine cI rD (sP (dV (loc:=J6.ZA A) (z0:={z with x0:=J (Y a),a5:=J (f0 0)}) (λj z s=>z.x0=J (Y a)/\M0 G A E i j z s) (rH (Z H) (rT (I.ZC.le _ _ v6) H)) ⟨H,I.ZC,I.aK,I.n,I.us,I.af,H⟩ (λj v z s K1 hv ZN ZW=>xA ZN λAT I=>?_) λz s (hI:z.x0=J (Y a)/\M0 G A E i (R (nL (G.Zv i))) z s)=>?_))
  .refine Bt v (wa hv) λX hX=>xE (⟨_,gM (hA▸(hS.ZT hi hX))⟩ : ∃b,A.aL[X]?=J b) λb hb=>?_
   refine cL (rN (rS (rE (Z H) (Z H) (r5 (I.ZC.Zu 3 H) (D (HT (hS.ZT hi hX)) (D I.aK H):(O8 (R G.ZH) z.aK)[X]?=J (ii Zt)))))) (λø=>?_) λq=>tf q
   refine cI (rE (Z (sJ J I.a5)) rD rU) (sP (cU I.ZC (X+4) (fE hb) (rE (Z H) (Z H) (r5 (I.ZC.Zu 1 H) (vl hb))) (rH (Z (sJ J AT)) (rT (I.ZC.le _ _ v6) H)) (D (sU _) (D (I.us _) (gA (SV hS (ij hi hS.aO) j X) (by decide)))) λs O=>ZW .next _ _ (tC ({z with us:=λsC=>if sC=X then z.us X++[i] else z.us sC,a5:=J (f0 (j+1:M)),bM:=J (f0 X)}) H AT ⟨?_,I.aK,I.n,λsC=>?_,I.af,H⟩)))
   .have e:(J6.ZC (R G.ZH) A z).set (X+4) (b,f1 (nL (z.us X)++[f0 i]))=J6.ZC (R G.ZH) A {z with us:=λsC=>if sC=X then z.us X++[i] else z.us sC,a5:=J (f0 (j+1:M)),bM:=J (f0 X)}:=by
     refine(sJ (λr=>(A.af,f1 (nL z.aK))::(A.ai,f1 (A.aL.map Y))::(A.au,f1 (rM z.n λr=>f0 (z.af r:M)))::(A.aE,f1 (O8 (R G.ZH) z.aK))::r) ((FU hb _).trans (CR λsC ø=>(?_:(if sC=X then f1 (nL (z.us X)++[f0 i]) else f1 (nL (z.us sC)))=f1 (nL (if sC=X then z.us X++[i] else z.us sC))))))
     split
     .exact D (wQ _ _) H
     .rfl
    exact tj e O
   .refine D (QC hX _) (tj (I.us sC) (?_:(if sC=X then z.us X++[i] else z.us sC)=_))
    by_cases e:sC=X
    .exact D (sI e) (D (sI e) (D e H))
    .exact D (sH e) (D (sH e) H)
  .refine xA hI λAT I=>?_
   rw[sU]at I;refine cU I.ZC 2 H (Z H) (Z (sJ J I.a5)) (D uJ (D I.n (gA (iG hi) (gA hS.aO (by decide))))) λs O=>(hK .next _ _ (Ir ({z with n:=i+1}) H (J (f0 0)) ⟨?_,I.aK,H,λX=>(I.us X).trans (by rw[SU,LF]),I.af,H⟩))
   unfold J6.ZC;exact D (D G1 (D I.n (D I.af H)):rM (i+1) (λr=>f0 (z.af r:M))=rM z.n (λr=>f0 (z.af r:M))++[f0 (R (G.Zv i):M)]) O
 .exact Yy h hS hA ⟨I.ZC,⟨I.aK▸iU,λX h=>(by have h:=(show z.aK=[] from I.aK)▸h;cases h),λr ø h=>absurd ((sH (iF r)).symm.trans h) Nat.one_ne_zero,λX h=>by cases h⟩,I.n,funext λX=>(I.us X).trans (LF ..),I.af⟩ k
theorem QD(h:GX E g G x)(hS:G.Sm)(hl:E l=J (f1 (O8 (R G.ZH) [])))(k:RL E K (D0 G)):HA [Y g,Y l] E K:=by
 refine OT (eK (sX.init E) (Z H) hl (D (Aq _ _) (gA hS.n (by refine D sS ?_;decide))) λc2 s O=>?_);exact dC O λc3 s O=>fV O (Z H) (O.Zu 1 H) (D (Aq _ _) (gA hS.n (by decide))) λua c4 s hu O=>dC O λc5 s O=>Yz (A:=⟨g,l,c2,c3,c4,c5,ua,[]⟩) (z:=⟨0,0,0,[],[],λr=>R (G.Zv r),λø=>[],sD,sD,sD,sD,sD,sD⟩) h hS (hu.trans (Aq ..)) O H rfl rfl rfl k
noncomputable def fo(N:M->bn)(F:M->M):V M->M×bn
 | []=>(0,pH)
 | s::r=>if N s then (F s|||(fo N F r).1,(fo N F r).2) else (F s,Zt)
theorem M1{N:M->bn}(h:N i=pH):fo N F (i::w)=(F i|||(fo N F w).1,(fo N F w).2):=sI h
theorem QE{N:M->bn}(h:N i=Zt):fo N F (i::w)=(F i,Zt):=sH (kX.mp h)
theorem cW{u:LV}(h:Ev e ρ s u)(g:Ev mo ρ s v):Ev (pN (pL e (pL mo pK))) ρ s (f2 [u,v]):=rG (cE h (cE g cF)) (gQ H)
noncomputable def Zi.ZA(row:V M)(A:Ag)(z:Zg):uZ:=[J (f2 (nL row)),J (Y A.ae),J (Y A.az),J (f0 z.aA),z.x0]
theorem HU{n:M}{N:M->bn}{row:V M}(hn:E a=J (f1 (rM n λX=>ii (N X))))(hf:E g=J (f1 (rM n λX=>f0 (F X:M))))(hr:∀s∈row,s<n):Op (BH [f2 (nL row),Y a,Y g]) E (f2 [f0 ((fo N F row).1:M),ii (fo N F row).2]):=λKE k=>by
 refine Lg (cI rD (dV (loc:=Zi.ZA row ⟨a,g,0,0,0,0,[],[]⟩) (z0:=⟨0,0,0,[],[],id,λø=>[],sD,sD,sD,sD,sD,sD⟩) (λi z s=>s=E/\(z.aA|||(fo N F (row.drop i)).1,(fo N F (row.drop i)).2)=fo N F row) (Z H) ⟨H,by refine D jm (?_:(0|||_,_)=_);exact D (Nat.zero_or _) H⟩ (λi v z s K' hv I hK=>?_) λz s I=>?_))
 .obtain ⟨rfl,I⟩:=I
  (refine s9 (wa hv) λX hX e9=>?_;refine D e9 ?_)
  obtain ⟨hi,e⟩:=gB.mp hX;rw[jk hi,e]at I;refine cI (rE (Z H) (rE (Z H) (Z H) (r5 hf (ux (f:=λX=>f0 (F X:M)) (hr X (gz hX))))) sj) (cJ (cL (rN (rS (rE (Z H) (Z H) (r5 hn (ux (f:=λX=>ii (N X)) (hr X (gz hX))))))) (λhb=>?_) λhb=>?_))
  .have hb:N X=Zt:=by rw[j6]at hb;exact hb
   rw[QE hb]at I;refine cP (cW (Z H) rD) (hK (.ret _) _ _ ?_);rw[<- I]at k;exact k
  .have hb:N X=pH:=by rw[nQ]at hb;exact hb
   rw[M1 hb]at I;exact hK .next _ _ ⟨{z with aA:=z.aA|||F X,x0:=J (f0 X)},H,H,by refine(?_:((z.aA|||F X)|||_,_)=_);rw[Nat.or_assoc];exact I⟩
 .obtain ⟨rfl,I⟩:=I;rw[sU,l5]at I;rw[<- I]at k;refine cJ (cP (cW (Z H) rD) ?_);have e:z.aA|||(fo N F []).1=z.aA:=Nat.or_zero _;rw[e]at k;exact k
noncomputable def FD(G:Gm)(t sC:M):Prop:=∀C:M->Prop,(t<G.aa->C t)->(∀{r α β sC},r<R G.ZF->G.Zv r=α++sC::β->(∀a∈α,Gl G a)->C sC->C (G.ZE r))->C sC
theorem FD.aF(h:t<G.aa):FD G t t:=λø a ø=>a h
theorem FD.ao(hr:r<R G.ZF)(e:G.Zv r=w++sC::ts)(h:∀a∈w,Gl G a)(d:FD G t sC):FD G t (G.ZE r):=λC a b=>b hr e h (d C a b)
noncomputable abbrev G3(G:Gm)(F:M->M):Prop:=(∀X,X<G.aa->F X=2 ^ X)/\(∀r,r<R G.ZF->F (G.ZE r)|||(fo (vU G) F (G.Zv r)).1=F (G.ZE r))/\∀X t,X<R G.ZH->(F X).testBit t=pH->FD G t X
def G3.tm(h:G3 G F):=h.1
def G3.cl(h:G3 G F):=h.2.1
def G3.so(h:G3 G F):=h.2.2
theorem wq:vU G X=pH<->Gl G X:=by unfold vU;exact @u2 _ (nr _)
theorem J7{N:M->bn}{F:M->M}{t:M}:∀{row:V M},(fo N F row).1.testBit t=pH->∃α sC β,row=α++sC::β/\(∀a∈α,N a=pH)/\(F sC).testBit t=pH
 | [],h=>by rw[show(fo N F []).1=0 from H,kO]at h;exact ft h
 | s::r,h=>by
  cases hs:N s with
  | false=>rw[QE hs]at h;exact(Fb ([]) s r H (λa h=>uG h) h)
  | true=>
   rw[M1 hs,jt,jo]at h
   rcases h with h | h
   .exact(Fb ([]) s r H (λa h=>uG h) h)
   .refine w5 (J7 h) λα sC β e h1 h2=>(Fb (s::α) sC β (D e H) (λa ha=>?_) h2)
    rcases gX.mp ha with rfl | ha
    .exact hs
    .exact h1 a ha
noncomputable def wd:M->(M->M)->M
 | 0,_=>0
 | n+1,f=>wd n f+f n
theorem M3:wd (i+1) F=wd i F+F i:=H
theorem BO:(∀i,i<t->F i<=ms i)->wd t F<=wd t ms:=by
 induction t with
 | zero=>exact λø=>gC _
 | succ t ih=>exact λh=>jE (ih λi hi=>h i (ja hi)) (h t (iC t))
theorem J8:(∀i,i<t->F i<=ms i)->(∃i,i<t/\F i<ms i)->wd t F<wd t ms:=by
 induction t with
 | zero=>exact λø h=>s9 h λi h ø=>absurd h (iF _)
 | succ t ih=>
  intro h q;refine s9 q λi hi hl=>?_
  by_cases e:i=t
  .exact Nat.add_lt_add_of_le_of_lt (BO λi hi=>h i (ja hi)) (e▸hl)
  .exact n7 (ih (λi hi=>h i (ja hi)) (ti i (Io hi e) hl)) (h t (iC t))
theorem HV(n:M):wd n (λø=>i)=n*i:=by
 induction n with
 | zero=>exact(nj _).symm
 | succ n ih=>exact D M3 (D ih (ko _ _).symm)
theorem D1(h:GX s g G x)(hS:G.Sm)(k:RL s K (D0 G)):xO [Y g] s K:=by
 refine Ld (cO (cC (cG H (cC (eh (n:=R G.ZH) (sX.init s) rD (λs' le=>?_) (gA hS.n (by decide)) λc s' O=>?_)))))
 .exact rK (Z H) (cK ((h.Zz le).hg)) cF (xm (h.Zz le))
 .exact QD (h.Zz O.le) hS (D (SO _) (O.Zu 0 H)) (RL.ZC O λc s' O=>(k c s' O.le (O.fr 0 H) (O.Zu 0 H)))
noncomputable def SY.ZA(A:Ag)(z:Zg):uZ:=[J (Y A.ae),J (Y A.az),J (Y A.aE),z.x0,J (ii (z.ah=1)),z.a5,z.bM]
noncomputable def SY.ZC(G:Gm)(A:Ag)(z:Zg):V (sE×LO):=[(A.aE,f1 (rM z.n λX=>f0 (z.af X:M))),(A.az,f1 (D0 G))]
noncomputable abbrev LJ(G:Gm)(F:M->M):Prop:=(∀X,X<G.aa->F X=2 ^ X)/\(∀X t,X<R G.ZH->(F X).testBit t=pH->FD G t X)/\∀X,X<R G.ZH->F X<2 ^ G.aa
def LJ.tm(h:LJ G F):=h.1
def LJ.so(h:LJ G F):=h.2.1
def LJ.az(h:LJ G F):=h.2.2
theorem LJ.m_{G:Gm}{F:M->M}(h:LJ G F){N:M->bn}:∀{row:V M},(∀s∈row,s<R G.ZH)->(fo N F row).1<2 ^ G.aa
 | [],_=>mO _
 | s::r,hr=>by
  have hs:=h.az s (hr s gI);cases e:N s with
  | false=>exact D (QE e) hs
  | true=>exact D (M1 e) (Nat.or_lt_two_pow hs (LJ.m_ h λs hs=>hr s (gH _ hs)))
noncomputable def vm(F:M->M)(X v:M):M->M:=λt=>if t=X then v else F t
theorem LJ.put(h:LJ G F)(hS:G.Sm)(hl:∀r,r<R G.ZF->G.aa<=G.ZE r)(hr:r<R G.ZF):LJ G (vm F (G.ZE r) (F (G.ZE r)|||(fo (vU G) F (G.Zv r)).1)):=by
 refine⟨λX hX=>?_,λX t hX hb=>?_,λX hX=>?_⟩<;>unfold vm at *<;>by_cases e:X=G.ZE r
 .exact absurd hX (e▸nq (hl r hr))
 .exact D (sH e) (h.tm X hX)
 .rw[sI e,jt,jo]at hb
  rcases hb with hb | hb
  .exact D e (h.so _ t (hS.lf r hr) hb)
  .exact w5 (J7 hb) λα sC β e1 h1 h2=>D e (.ao hr e1 (λa ha=>wq.mp (h1 a ha)) (h.so sC t (hS.rt r hr sC (D e1 (gU _ gI))) h2))
 .rw[sH e]at hb;exact h.so X t hX hb
 .exact D (sI e) (Nat.or_lt_two_pow (h.az _ (hS.lf r hr)) (h.m_ (hS.rt r hr)))
 .exact D (sH e) (h.az X hX)
theorem N2{n:M}(hX:X<n)(hv:F X<t):wd n F<wd n (vm F X t):=by
 refine J8 (λi hi=>?_) (ti X hX (by unfold vm;exact D (sI H) hv));unfold vm
 by_cases e:i=X
 .exact D (sI e) (D e (iG hv))
 .exact D (sH e) (gC _)
theorem LJ.sum(h:LJ G F):wd (R G.ZH) F<=R G.ZH*2 ^ G.aa:=by
 rw[<- HV];exact BO λi hi=>iG (h.az i hi)
noncomputable abbrev Pb(G:Gm)(A:Ag)(st:LH)(F0:M->M)(i:M)(z:Zg)(s:LH):Prop:=sX st s (SY.ZC G A z)/\z.n=R G.ZH/\LJ G z.af/\(z.ah=1->wd (R G.ZH) F0<wd (R G.ZH) z.af)/\(z.ah≠1->z.af=F0/\∀r,r<i->F0 (G.ZE r)|||(fo (vU G) F0 (G.Zv r)).1=F0 (G.ZE r))
def Pb.ZC(h:Pb G gk E F i z s):=h.1
def Pb.n(h:Pb G gk E F i z s):=h.2.1
def Pb.ff(h:Pb G gk E F i z s):=h.2.2.1
def Pb.sm(h:Pb G gk E F i z s):=h.2.2.2.1
def Pb.le(h:Pb G gk E F i z s):=h.2.2.2.2
noncomputable abbrev Pc(G:Gm)(A:Ag)(st:LH)(m:M)(z:Zg)(s:LH):Prop:=sX st s (SY.ZC G A z)/\z.n=R G.ZH/\LJ G z.af/\(z.ah≠1->∀r,r<R G.ZF->z.af (G.ZE r)|||(fo (vU G) z.af (G.Zv r)).1=z.af (G.ZE r))/\(m=2*(R G.ZH*2 ^ G.aa - wd (R G.ZH) z.af)+if z.ah=1 then 1 else 0)
def Pc.ZC(h:Pc G gk E m z s):=h.1
def Pc.n(h:Pc G gk E m z s):=h.2.1
def Pc.ff(h:Pc G gk E m z s):=h.2.2.1
def Pc.le(h:Pc G gk E m z s):=h.2.2.2.1
def Pc.aA(h:Pc G gk E m z s):=h.2.2.2.2
theorem S1(h:GX E gk.ae G x)(hS:G.Sm)(hl:∀r,r<R G.ZF->G.aa<=G.ZE r)(hi:i<R G.ZF)(v6:E a=J (f4 87 d [f0 i,f0 (G.ZE i),f2 (nL (G.Zv i)),ZM,.none,f0 0,f0 0]))(I:Pb G gk E ms i z s)
  (hK:∀fl em s',ue (zI (SY.ZA gk) (Pb G gk E ms (i+1))) (A3 qm Kb) fl em s'->K' fl em s'):zH ((SY.ZA gk z).set 5 (J (Y a))) s K':=by
 refine cI (v:=f0 (z.af (G.ZE i)|||(fo (vU G) z.af (G.Zv i)).1:M)) (rE (rE (Z H) (rH (Z H) (rT (I.ZC.le _ _ v6) H)) (r5 (I.ZC.Zu 0 H) (ux (f:=λX=>f0 (z.af X:M)) (I.n▸hS.lf i hi)))) (rE (rI (cE (rH (Z H) (rT (I.ZC.le _ _ v6) H)) (cE (Z H) (cE (Z H) cF))) (HU (n:=z.n) (F:=z.af) (N:=vU G) (D I.n (I.ZC.Zu 1 H)) (I.ZC.Zu 0 H) (D I.n (hS.rt i hi)))) rD (r8 (n:=0) H)) sj) (sP (cL (rL (Z H) (rE (Z H) (rH (Z H) (rT (I.ZC.le _ _ v6) H)) (r5 (I.ZC.Zu 0 H) (ux (f:=λX=>f0 (z.af X:M)) (I.n▸hS.lf i hi)))) r4) (λhb=>?_) λhb=>?_))
 .refine dF I.ZC 0 (G.ZE i) H (Z H) (Z H) (rH (Z H) (rT (I.ZC.le _ _ v6) H)) (D uJ (D I.n (hS.lf i hi))) λs O=>?_
  rw[BN]at O;refine cI rD (?_)
  have Z0:z.af (G.ZE i)<z.af (G.ZE i)|||(fo (vU G) z.af (G.Zv i)).1:=by
   rcases kq (Nat.left_le_or:z.af (G.ZE i)<=z.af (G.ZE i)|||(fo (vU G) z.af (G.Zv i)).1) with h | h
   .exact h
   .rw[<- h]at hb;simp at hb
  refine hK .next _ _ (ti ({z with af:=vm z.af (G.ZE i) (z.af (G.ZE i)|||(fo (vU G) z.af (G.Zv i)).1),ah:=1,a5:=J (Y a),bM:=_}) H ⟨O,I.n,I.ff.put hS hl hi,λø=>?_,λh=>absurd rfl h⟩)
  by_cases q:z.ah=1
  .exact mI (I.sm q) (N2 (n:=R G.ZH) (F:=z.af) (hS.lf i hi) Z0)
  .exact tj ((I.le q).1) (N2 (n:=R G.ZH) (F:=z.af) (hS.lf i hi) Z0)
 .refine hK .next _ _ (ti ({z with a5:=J (Y a),bM:=_}) H ⟨I.ZC,I.n,I.ff,I.sm,λq=>⟨(I.le q).1,λr hr=>?_⟩⟩)
  by_cases e:r=i
  .subst e;exact tj ((I.le q).1) (iQ (by simpa using hb:((z.af (G.ZE r)|||(fo (vU G) z.af (G.Zv r)).1:M):al)=(z.af (G.ZE r):M)))
  .exact(I.le q).2 r (Io hr e)
theorem QF(h:GX E gk.ae G x)(hS:G.Sm)(hl:∀r,r<R G.ZF->G.aa<=G.ZE r)(I:Pc G gk E m z s)(hk:z.ah=1)
  (hK:∀fl em s',ue (zI (SY.ZA gk) λz s=>∃m',m'<m/\Pc G gk E m' z s) TW fl em s'->Kb fl em s'):A9 (SY.ZA gk z) s Kb:=by
 refine cI rD (sP (cJ (dY (z0:={z with ah:=0}) h (Pb G gk E z.af) (rH (Z H) (rT (I.ZC.le _ _ h.hg) H)) (λi z s I=>I.ZC.le) ⟨I.ZC,I.n,I.ff,λe=>(by exact(sN ke e).elim),λø=>⟨H,λr h=>absurd h (iF r)⟩⟩ (λi a d ZM z s K' hi ha I hK=>S1 h hS hl hi ha I hK) λz' s rC=>hK .next _ _ (vA z' H _ ?_ ⟨rC.ZC,rC.n,rC.ff,λq r hr=>by refine D ((rC.le q).1) ?_;exact(rC.le q).2 r hr,H⟩))));have e:=I.aA;rw[sI hk]at e;refine D e ?_
 by_cases q:z'.ah=1
 .exact D (sI q) (Mq [2,1] 0x4250080109002004a74140219cc40084640824 H (rC.sm q) (gO (tD [] 0x52048520402 H rC.ff.sum)) (gO (uy [] 0x5304843042520403 H rC.ff.sum (rC.sm q))))
 .exact D (sH q) (D ((rC.le q).1) (iC _))
noncomputable def US(G:Gm)(X:M):M:=if X<G.aa then 2 ^ X else 0
theorem VH(G:Gm):LJ G (US G):=by
 refine⟨λX hX=>sI hX,λX t hX hb=>?_,λX hX=>?_⟩<;>unfold US at *<;>by_cases e:X<G.aa
 .rw[sI e,mS]at hb;refine tj (sQ hb) ?_;exact .aF e
 .rw[sH e,kO]at hb;exact ft hb
 .exact D (sI e) (Nat.pow_lt_pow_right (by decide) e)
 .exact D (sH e) (mO _)
theorem IC(h:GX E g G x)(hS:G.Sm)(hl:∀r,r<R G.ZF->G.aa<=G.ZE r)(k:∀F,G3 G F->RL E K (rM (R G.ZH) λX=>f0 (F X:M))):AB [Y g] E K:=by
 refine HB (cO (cC (cG H (D1 h hS (RL.ZC (sX.init E) λc1 s O=>sP (dC O λc2 s O=>?_))))));have hx:=h.Zz O.le;refine dH (loc:=λ(z:Zg)=>[J (Y g),J (Y c1),J (Y c2),z.x0,sD,sD,sD]) (z0:=⟨0,0,0,[],[],US G,λø=>[],sD,sD,sD,sD,sD,sD⟩) (λi z s=>sX E s (SY.ZC G ⟨g,c1,c2,0,0,0,[],[]⟩ z)/\z.n=i/\z.af=US G) (rK (Z H) (cK hx.hg) cF (xm hx)) (gA hS.n (by decide)) (uS O H rfl) (λi z s K' hi I hK=>?_) λz s I=>?_
 .have hx.hg:=(h.Zz I.1.le).hg;refine cU I.1 0 H (v:=f0 (US G i:M)) (Z H) (Ev.ife (rS (rK (Z H) (cK hx.hg) (cE (Z H) cF) (vP (h.Zz I.1.le)))) (λq=>?_) λq=>?_) (D uJ (D I.2.1 (gA (iG hi) (gA hS.n (by decide))))) λs O=>?_
  .exact D (show US G i=2 ^ i from sI (g8.mp (sQ q))) (rE rD (Z H) (sq (gA (iG hi) (gA hS.n (by decide)))))
  .exact D (show US G i=0 from sH λq'=>sW q (g8.mpr q')) rD
  .rw[<- I.2.2,<- I.2.1,<- G1 (f:=λX=>f0 (z.af X:M))]at O;exact hK .next _ _ (wU ({z with n:=i+1,x0:=J (f0 i)}) H (by rw[I.2.1]at O;exact O) H I.2.2)
 .refine cI rD (cJ (L.Do (loc:=SY.ZA ⟨g,c1,c2,0,0,0,[],[]⟩) (z0:={z with ah:=1,a5:=sD,bM:=sD}) (Pc G ⟨g,c1,c2,0,0,0,[],[]⟩ E) ⟨I.1,I.2.1,by refine D (show({z with ah:=1,a5:=sD,bM:=sD}:Zg).af=US G from I.2.2) ?_;exact VH G,λq=>absurd rfl q,H⟩ λm z s I=>(tC _ (rS (Z H)) (λhk Kb G'=>QF h hS hl I (sQ hk) G') (λhk=>sP (cJ (cP (Z H) ?_))))));have e:=I.ZC.Zu 0 H;rw[I.n]at e;exact k z.af ⟨I.ff.tm,I.le (sW hk),I.ff.so⟩ c2 s I.ZC.le (I.ZC.fr 0 H) e
structure Gm.ZU (G:Gm):Prop extends G.Sm where
 Ý:3<=G.aa
 ė:∀r,r<R G.ZF->G.aa<=G.ZE r
 bx:0<R G.ZF
 bN:G.ZE 0=G.aa
 t0:G.Zv 0=[G.aa+1,0]
 lf0:∀r,r<R G.ZF->r≠0->G.ZE r≠G.aa
 Ü:∀r,r<R G.ZF->r≠0->∀s∈G.Zv r,3<=s/\s≠G.aa
 one:∀X,G.aa<X->X<R G.ZH->∃r a,r<R G.ZF/\G.ZE r=X/\G.Zv r=[a]/\3<=a/\a<G.aa
noncomputable def DL(G:Gm)(α β:V M):Prop:=∀C:V M->V M->Prop,C [] []->(∀X {α β},C α β->C (X::α) (X::β))->(∀{r α β γ},r<R G.ZF->C (G.Zv r) γ->C α β->C (G.ZE r::α) (γ++β))->C α β
namespace DL
theorem nil:DL G [] []:=λø a ø ø=>a
theorem keep(h:DL G w ts):DL G (X::w) (X::ts):=λC a b c=>b X (h C a b c)
theorem rule(hr:r<R G.ZF)(h:DL G (G.Zv r) w0)(k:DL G w ts):DL G (G.ZE r::w) (w0++ts):=λC a b c=>c hr (h C a b c) (k C a b c)
theorem inv(h:DL G w ts):(w=[]->ts=[])/\∀X a,w=X::a->(∃b,ts=X::b/\DL G a b)\/∃r w0 b,r<R G.ZF/\G.ZE r=X/\ts=w0++b/\DL G (G.Zv r) w0/\DL G a b:=
 (h (λw ts=>DL G w ts/\(w=[]->ts=[])/\∀X a,w=X::a->(∃b,ts=X::b/\DL G a b)\/∃r w0 b,r<R G.ZF/\G.ZE r=X/\ts=w0++b/\DL G (G.Zv r) w0/\DL G a b) ⟨nil,id,λø ø e=>(lS _ _ e.symm).elim⟩
  (λX ø b k=>⟨keep k.1,λe=>(lS _ _ e).elim,λø ø e=>.inl ⟨b,sJ (·::b) (kP e).1,(kP e).2▸k.1⟩⟩)
  λ{r _ b w0} hr h k=>⟨rule hr h.1 k.1,λe=>(lS _ _ e).elim,λø ø e=>.inr ⟨r,w0,b,hr,(kP e).1,H,h.1,(kP e).2▸k.1⟩⟩).2
theorem refl(G:Gm):∀w:V M,DL G w w
 | []=>nil
 | _::w=>keep (refl G w)
theorem append(h:DL G w ts)(k:DL G w0 σ):DL G (w++w0) (ts++σ):=
 (h (λw ts=>DL G w ts/\DL G (w++w0) (ts++σ)) ⟨nil,k⟩ (λø ø ø h=>⟨keep h.1,keep h.2⟩) λhr h k=>⟨rule hr h.1 k.1,D (gW ..) (rule hr h.1 k.2)⟩).2
theorem split:∀{α β w:V M},DL G (α++β) w->∃Ŋ h!,w=Ŋ++h!/\DL G α Ŋ/\DL G β h!
 | [],β,w,h=>(tU ([]) w H nil h)
 | X::α,β,_,h=>(h.inv.2 _ _ H).elim (λh=>s9 h λø e h=>t8 (split h) λa b e9 h1 h2=>tU (X::a) b (e.trans (sJ _ e9)) (keep h1) h2) λh=>vz h λr c ø hr hX e hg h=>t8 (split h) λa b e9 h1 h2=>tU (c++a) b (e.trans (D e9 (gW ..).symm)) (hX▸rule hr hg h1) h2
theorem trans(h:DL G w ts):∀{w0},DL G ts w0->DL G w w0:=λ{w0}=>
 h (λw ts=>∀w0,DL G ts w0->DL G w w0) (λø k=>k) (λø ø ø ih ø k=>(k.inv.2 _ _ H).elim (λk=>s9 k λø e k=>D e (keep (ih _ k))) λk=>vz k λø ø ø hr hX e hg k=>D e (hX▸rule hr hg (ih _ k)))
  (λhr i1 i2 ø k=>t8 (split k) λø ø e h1 h2=>D e (rule hr (i1 _ h1) (i2 _ h2))) w0
theorem one(hr:r<R G.ZF):DL G [G.ZE r] (G.Zv r):=by
 have:=rule hr (refl G (G.Zv r)) nil;rw[gY]at this;exact this
theorem mid{α γ:V M}(h:DL G [X] w):DL G (α++X::γ) (α++(w++γ)):=(refl G α).append (h.append (refl G γ))
theorem nul(h:Gl G X):DL G [X] []:=h (λX=>DL G [X] []) λ{r} hr ih=>by
  refine(one hr).trans ?_;generalize G.Zv r=l at ih
  induction l with
  | nil=>exact nil
  | cons a l Ä=>exact(ih a gI).append (Ä λs hs=>ih s (gH _ hs))
theorem ŕ:∀{w:V M},(∀a∈w,Gl G a)->DL G w []
 | [],_=>nil
 | a::w,h=>(nul (h a gI)).append (ŕ λs hs=>h s (gH _ hs))
theorem inv1(h:DL G [X] w):w=[X]\/∃r,r<R G.ZF/\G.ZE r=X/\DL G (G.Zv r) w:=by
 exact(h.inv.2 _ _ H).imp (λh=>s9 h λø e k=>e.trans (sJ _ (k.inv.1 H))) λh=>vz h λr c b hr hX e hg k=>tC r hr hX (D (e.trans (D (k.inv.1 H) (gY c)):w=c) hg)
end DL
open _root_.Mine.DL renaming refl->su,one->sz
noncomputable abbrev Wd:=M->sF (V M)
variable {W W0:Wd} {gq:Wd×Zg}
noncomputable def Bh:sF (V M)->LV
 | none=>.none
 | some w=>f2 (nL w)
noncomputable def jw(W:Wd):V M->sF (V M)
 | []=>J []
 | s::r=>(W s).bind λw=>(jw W r).map (w++·)
theorem S3(h:W i=sD):jw W (i::ts)=sD:=sJ (λo:sF (V M)=>o.bind λw=>(jw W ts).map (w++·)) h
theorem QG(h:W i=J w):jw W (i::ts)=(jw W ts).map (w++·):=sJ (λo:sF (V M)=>o.bind λw=>(jw W ts).map (w++·)) h
theorem QH{W:Wd}{B:M}(h:∀X w,W X=J w->R w<=B):∀{row v:V M},jw W row=J v->R v<=R row*B
 | [],v,e=>by obtain rfl:=gv e;exact gE _
 | s::r,v,e=>by
  cases hs:W s with
  | none=>rw[S3 hs]at e;exact uH e
  | some w=>
   rw[QG hs]at e;exact vp v (gR.mp e) λu hu=>D gK (D iu (D (ko _ _) (Dp [] 0x7300a4004872040628403 H (QH h hu) (h s w hs))))
theorem QI{G:Gm}{W:Wd}(h:∀X w,W X=J w->DL G [X] w):∀{row v:V M},jw W row=J v->DL G row v
 | [],v,e=>by obtain rfl:=gv e;exact .nil
 | s::r,v,e=>by
  cases hs:W s with
  | none=>rw[S3 hs]at e;exact uH e
  | some w=>
   rw[QG hs]at e;exact vp v (gR.mp e) λu hu=>(h s w hs).append (QI h hu)
noncomputable def Zj.ZA(row:V M)(a:sE)(z:Zg):uZ:=[J (f2 (nL row)),J (Y a),J (f2 (nL z.ag)),z.x0]
theorem BP{p q:V M}(h:R p+R q<=10000000):Op (pZ (f2 (nL p)) (f2 (nL q))) s (f2 (nL (p++q))):=by
 rw[<- yd];exact Op.x! (D (sU _) (D (sU _) (D sS (tD [10000000,16777216] 0x42520024004a400402 H h))))
theorem HW(hw:E a=J (f1 (rM m λX=>Bh (W X))))(hB:∀X w,W X=J w->R w<=t)(hz:R ts*t<=1000000)(hr:∀s∈ts,s<m):Op (zS [f2 (nL ts),Y a]) E (Bh (jw W ts)):=λKE k=>by
 refine GN (cI (rG cF (gE _)) (sP (cJ (dV (loc:=Zj.ZA ts a) (z0:=⟨0,0,0,[],[],id,λø=>[],sD,sD,sD,sD,sD,sD⟩) (λi z s=>s=E/\R z.ag<=i*t/\(jw W (ts.drop i)).map (z.ag++·)=jw W ts) (Z H) (uS H (gE _) (D jm sF.map_id')) (λi v z s K' hv I hK=>?_) λz s I=>?_))))
 .obtain ⟨rfl,hl,I⟩:=I
  (refine s9 (wa hv) λX hX e9=>?_;refine D e9 ?_)
  obtain ⟨hi,e⟩:=gB.mp hX;rw[jk hi,e]at I;have a1:=ux (f:=λX=>Bh (W X)) (hr X (gz hX));cases AC:W X with
  | none=>
   rw[AC]at a1;rw[S3 AC]at I;rw[<- I]at k;exact cL (rL (rE (Z H) (Z H) (r5 hw a1)) rD (sd (y:=.none))) (λø=>cJ (cP rD (hK (.ret _) _ _ k))) λq=>tf q
  | some w=>
   rw[AC]at a1;rw[QG AC,sF.map_map]at I;have hle:(i+1)*t<=R ts*t:=kA _ hi;rw[ko]at hle;refine cL (rL (rE (Z H) (Z H) (r5 hw a1)) rD (se (y:=.none) nofun)) (λq=>ft q) λø=>sP (cJ (cI (v:=f2 (nL (z.ag++w))) (rE (Z H) (rE (Z H) (Z H) (r5 hw a1)) (BP (Mq [1000000,10000000] 0x42520024320e008105080e40800130405 H hz hl (hB X w AC) hle))) (sP (hK .next _ _ ⟨{z with ag:=z.ag++w,x0:=J (f0 X)},H,H,?_,?_⟩))))
   .exact D (ko _ _) (D gK (Dp [] 0x7300a4004872840620403 H hl (hB X w AC)))
   .rw[<- I];congr 1;funext v;exact gW ..
 .obtain ⟨rfl,hl,I⟩:=I;rw[sU,l5]at I;rw[<- I]at k;refine cJ (cP (Z H) ?_);rw[show(jw W []).map (z.ag++·)=J z.ag from sJ J (gY _)]at k;exact k
noncomputable abbrev PH(G:Gm)(W:Wd):Prop:=(∀X,X<G.aa->W X=if X=1 then sD else J [X])/\(∀X w,W X=J w->DL G [X] w)/\(∀X w,W X=J w->3<=X->X≠G.aa->∀t∈w,3<=t/\t<G.aa)/\∀r w,r<R G.ZF->jw W (G.Zv r)=J w->∃w',W (G.ZE r)=J w'/\R w'<=R w
def PH.tm(h:PH G W):=h.1
def PH.so(h:PH G W):=h.2.1
def PH.tw(h:PH G W):=h.2.2.1
def PH.cl(h:PH G W):=h.2.2.2
noncomputable abbrev LK(G:Gm)(W:Wd):Prop:=(∀X,X<G.aa->W X=if X=1 then sD else J [X])/\(∀X w,W X=J w->DL G [X] w)/\(∀X w,W X=J w->3<=X->X≠G.aa->∀t∈w,3<=t/\t<G.aa)/\∀X w,W X=J w->R w<=3 ^ wd (R G.ZH) λX=>if (W X).isSome then 1 else 0
def LK.tm(h:LK G W):=h.1
def LK.so(h:LK G W):=h.2.1
def LK.tw(h:LK G W):=h.2.2.1
def LK.az(h:LK G W):=h.2.2.2
theorem UT{G:Gm}{W:Wd}(h:∀X w,W X=J w->3<=X->X≠G.aa->∀t∈w,3<=t/\t<G.aa):∀{row v:V M},(∀s∈row,3<=s/\s≠G.aa)->jw W row=J v->∀t∈v,3<=t/\t<G.aa
 | [],v,_,e=>by obtain rfl:=gv e;exact λt h=>by cases h
 | s::r,v,hr,e=>by
  cases hs:W s with
  | none=>rw[S3 hs]at e;exact uH e
  | some w=>
   rw[QG hs]at e;exact vp v (gR.mp e) λu hu=>λt ht=>(gP.mp ht).elim (h s w hs (hr s gI).1 (hr s gI).2 t) (UT h (λs hs=>hr s (gH _ hs)) hu t)
noncomputable def D2(W:Wd)(X:M)(w:V M):Wd:=λsC=>if sC=X then J w else W sC
theorem LK.cnt(W:Wd)(hS:G.Sm):3 ^ (wd (R G.ZH) λX=>if (W X).isSome then 1 else 0)<=6561:=by
 have:(wd (R G.ZH) λX=>if (W X).isSome then 1 else 0)<=8:=by
  refine gA (BO λi ø=>?_) (D (HV _) (D (mz _) hS.n))
  split<;>decide
 exact gA (lA (by decide) this) (by decide)
theorem LK.put(h:LK G W)(hF:G.ZU)(hr:r<R G.ZF)(hw:jw W (G.Zv r)=J w)(ZY:∀v,W (G.ZE r)=J v->R w<R v):LK G (D2 W (G.ZE r) w):=by
 have R':(wd (R G.ZH) λX=>if (W X).isSome then 1 else 0)<=wd (R G.ZH) λX=>if (D2 W (G.ZE r) w X).isSome then 1 else 0:=BO λi hi=>by
  unfold D2
  by_cases e:i=G.ZE r
  .refine D (sI e) ?_;simp;split<;>decide
  .exact D (sH e) (gC _)
 have hp:=lA (show 0<3 by decide) R';refine⟨λX hX=>?_,λX v hv=>?_,λX v hv=>?_,λX v hv=>?_⟩
 .unfold D2;exact D (sH (by exact uy [] 0x5204653040620423 H hX (hF.ė r hr))) (h.tm X hX)
 .unfold D2 at hv
  by_cases e:X=G.ZE r
  .rw[sI e]at hv;obtain rfl:=gv hv;subst e;exact(sz hr).trans (QI h.so hw)
  .rw[sH e]at hv;exact h.so X v hv
 .unfold D2 at hv
  by_cases e:X=G.ZE r
  .rw[sI e]at hv;obtain rfl:=gv hv;exact λø hX=>UT h.tw (hF.Ü r hr λq=>hX (e.trans (q▸hF.bN))) hw
  .rw[sH e]at hv;exact h.tw X v hv
 .unfold D2 at hv
  by_cases e:X=G.ZE r
  .rw[sI e]at hv;refine tj (gv hv) ?_;cases q:W (G.ZE r) with
   | some v=>exact gA (iG (ZY v q)) (gA (h.az _ v q) hp)
   | none=>
    have hp:=lA (show 0<3 by decide) (J8 (λi hi=>by
     unfold D2
     by_cases e:i=G.ZE r
     .refine D (sI e) ?_;simp;split<;>decide
     .exact D (sH e) (gC _)) (ti (G.ZE r) (hF.toSm.lf r hr) (by unfold D2;exact D (sI H) (D q Nat.zero_lt_one))):(wd (R G.ZH) λX=>if (W X).isSome then 1 else 0)<wd (R G.ZH) λX=>if (D2 W (G.ZE r) w X).isSome then 1 else 0)
    rw[Nat.pow_succ]at hp;exact Dp [3] 0x520487008c1014e01840620404 H (QH h.az hw) hp (kA _ (hF.toSm.au r):R (G.Zv r)*3 ^ (wd (R G.ZH) λX=>if (W X).isSome then 1 else 0)<=3*3 ^ (wd (R G.ZH) λX=>if (W X).isSome then 1 else 0))
  .rw[sH e]at hv;exact gA (h.az X v hv) hp
noncomputable def Xf(n:M)(W:Wd):M:=wd n λX=>match W X with | none=>6562 | some w=>R w
theorem S4(hX:X<t)(h1:R w<=6561)(h:∀v,W X=J v->R w<R v):Xf t (D2 W X w)<Xf t W:=by
 refine J8 (λi hi=>?_) (ti X hX ?_)<;>unfold D2
 .by_cases e:i=X
  .refine D (sI e) (D e ?_);cases q:W X with
   | none=>exact lF h1
   | some v=>exact iG (h v q)
  .exact D (sH e) (gC _)
 .refine D (sI H) ?_;cases q:W X with
  | none=>exact lG h1
  | some v=>exact h v q
noncomputable def Pd.ZA(A:Ag)(z:Wd×Zg):uZ:=[J (Y A.ae),J (Y A.az),z.2.x0,J (ii (z.2.ah=1)),z.2.a5,z.2.bM]
noncomputable def Pd.ZC(A:Ag)(z:Wd×Zg):V (sE×LO):=[(A.az,f1 (rM z.2.n λX=>Bh (z.1 X)))]
noncomputable abbrev N3(G:Gm)(A:Ag)(st:LH)(W0:Wd)(i:M)(z:Wd×Zg)(s:LH):Prop:=sX st s (Pd.ZC A z)/\z.2.n=R G.ZH/\LK G z.1/\(z.2.ah=1->Xf (R G.ZH) z.1<Xf (R G.ZH) W0)/\(z.2.ah≠1->z.1=W0/\∀r w,r<i->jw W0 (G.Zv r)=J w->∃w',W0 (G.ZE r)=J w'/\R w'<=R w)
def N3.ZC(h:N3 G gk E W0 i gq s):=h.1
def N3.n(h:N3 G gk E W0 i gq s):=h.2.1
def N3.ff(h:N3 G gk E W0 i gq s):=h.2.2.1
def N3.sm(h:N3 G gk E W0 i gq s):=h.2.2.2.1
def N3.le(h:N3 G gk E W0 i gq s):=h.2.2.2.2
noncomputable abbrev Pe(G:Gm)(A:Ag)(st:LH)(m:M)(z:Wd×Zg)(s:LH):Prop:=sX st s (Pd.ZC A z)/\z.2.n=R G.ZH/\LK G z.1/\(z.2.ah≠1->∀r w,r<R G.ZF->jw z.1 (G.Zv r)=J w->∃w',z.1 (G.ZE r)=J w'/\R w'<=R w)/\(m=2*Xf (R G.ZH) z.1+if z.2.ah=1 then 1 else 0)
def Pe.ZC(h:Pe G gk E m gq s):=h.1
def Pe.n(h:Pe G gk E m gq s):=h.2.1
def Pe.ff(h:Pe G gk E m gq s):=h.2.2.1
def Pe.le(h:Pe G gk E m gq s):=h.2.2.2.1
def Pe.aA(h:Pe G gk E m gq s):=h.2.2.2.2
theorem S5:(rM t λX=>Bh (W X)).set X (f2 (nL w))=rM t λsC=>Bh (D2 W X w sC):=by
 refine D Qz ?_;exact Lz λi ø=>by unfold D2;split<;>rfl
theorem S6(h:GX E gk.ae G x)(hF:G.ZU)(hi:i<R G.ZF)(v6:E a=J (f4 87 d [f0 i,f0 (G.ZE i),f2 (nL (G.Zv i)),ZM,.none,f0 0,f0 0]))(I:N3 G gk E W0 i gq s)
  (hK:∀fl em s',ue (zI (Pd.ZA gk) (N3 G gk E W0 (i+1))) (A3 qm Kb) fl em s'->K' fl em s'):zT ((Pd.ZA gk gq).set 4 (J (Y a))) s K':=by
 have hS:=hF.toSm;have ha:=I.ZC.le _ _ v6;have h1:=I.ZC.Zu 0 H;refine cI (v:=Bh (jw gq.1 (G.Zv i))) (rI (cE (rH (Z H) (rT ha H)) (cE (Z H) cF)) (HW h1 I.ff.az (gA (Nat.mul_le_mul (hS.au i) (LK.cnt gq.1 hS)) (by decide)) (D I.n (hS.rt i hi)))) (sP ?_)
 have u!:(∀w,jw gq.1 (G.Zv i)=J w->∃w',gq.1 (G.ZE i)=J w'/\R w'<=R w)->∀v,N3 G gk E W0 (i+1) (gq.1,{gq.2 with a5:=J (Y a),bM:=v}) s:=λq v=>by
  refine⟨I.ZC,I.n,I.ff,I.sm,λk=>⟨(I.le k).1,λr w hr hw=>?_⟩⟩
  by_cases e:r=i
  .obtain rfl:=e.symm;rw[<- (I.le k).1]at hw ⊢;exact q w hw
  .exact(I.le k).2 r w (kr (kM.mp hr) e) hw
 have turn:∀w,jw gq.1 (G.Zv i)=J w->(∀v,gq.1 (G.ZE i)=J v->R w<R v)->yn ((Pd.ZA gk gq |>.set 4 (J (Y a))).set 5 (J (Bh (jw gq.1 (G.Zv i))))) s (A3 qm K'):=λw hw ZY=>by
  refine D hw (dF I.ZC 0 (G.ZE i) H (Z H) (Z H) (rH (Z H) (rT ha H)) (D uJ (D I.n (hS.lf i hi))) λs O=>?_);rw[show Bh (J w)=f2 (nL w) from H,S5]at O;refine cI rD (sP ?_);have ħ:=S4 (hS.lf i hi) (gA (I.ff.put hF hi hw ZY |>.az (G.ZE i) w (sI H)) (LK.cnt _ hS)) ZY;refine hK .next _ _ (ti (D2 gq.1 (G.ZE i) w,{gq.2 with ah:=1,a5:=J (Y a),bM:=_}) H ⟨O,I.n,I.ff.put hF hi hw ZY,λø=>?_,λh=>absurd rfl h⟩)
  by_cases q:gq.2.ah=1
  .exact mI ħ (I.sm q)
  .exact tj ((I.le q).1) ħ
 cases hw:jw gq.1 (G.Zv i) with
 | none=>
  exact cL (rO (t:=pH) (rL (Z H) rD (sg (y:=.none))) (λq=>ft q)) (λq=>ft q) λø=>(sP (hK .next _ _ (ti _ H (u! (λw e=>uH (hw.symm.trans e)) _))))
 | some w=>
  have eL:Ev (pI qi (U 1) (L.Zx 87 1 (U 4))) (((Pd.ZA gk gq).set 4 (J (Y a))).set 5 (J (Bh (J w)))) s (Bh (gq.1 (G.ZE i))):=rE (Z H) (rH (Z H) (rT ha H)) (r5 h1 (ux (f:=λX=>Bh (gq.1 X)) (I.n▸hS.lf i hi)));cases hv:gq.1 (G.ZE i) with
  | none=>
   rw[hv]at eL;rw[hw]at turn;exact cL (rO (rL (Z H:Ev (U 5) (((Pd.ZA gk gq).set 4 (J (Y a))).set 5 (J (Bh (J w)))) s (f2 (nL w))) rD (sf (y:=.none) nofun)) λø=>rO (EvB.or (t:=Zt) (rL eL rD (sd (y:=.none))) λq=>tf q) λø=>rR) (λø=>turn w H λv e=>uH (hv.symm.trans e)) λq=>tf q
  | some v=>
   rw[hv]at eL;rw[hw]at turn;refine cL (t:=b8 ((R (nL w):al)<R (nL v))) (rP (rL (Z H:Ev (U 5) (((Pd.ZA gk gq).set 4 (J (Y a))).set 5 (J (Bh (J w)))) s (f2 (nL w))) rD (sf (y:=.none) nofun)) (rQ (EvB.v! (rL eL rD (se (y:=.none) nofun)) (EvB.Ŕ (rL (rJ (cE (Z H:Ev (U 5) (((Pd.ZA gk gq).set 4 (J (Y a))).set 5 (J (Bh (J w)))) s (f2 (nL w))) cF) sb) (rJ (cE eL cF) sb) rX))))) (λq=>turn w H λv' e=>?_) λq=>sP (hK .next _ _ (ti (gq.1,{gq.2 with a5:=J (Y a),bM:=_}) H (u! (λw' e=>?_) _)))
   .refine tj (gv (hv.symm.trans e)) ?_;have:=sQ q;rw[sU,sU]at this;exact g8.mp this
   .refine tj (gv (hw.symm.trans e)) ?_;have:=sW q;rw[sU,sU]at this;exact(ti v hv (jv.mp λh=>this (g8.mpr h)))
theorem QJ(h:GX E gk.ae G x)(hF:G.ZU)(I:Pe G gk E m gq s)(hk:gq.2.ah=1)
  (hK:∀fl em s',ue (zI (Pd.ZA gk) λgq s=>∃m',m'<m/\Pe G gk E m' gq s) TW fl em s'->Kb fl em s'):Bg (Pd.ZA gk gq) s Kb:=by
 refine cI rD (sP (cJ (dY (z0:=(gq.1,{gq.2 with ah:=0})) h (N3 G gk E gq.1) (rH (Z H) (rT (I.ZC.le _ _ h.hg) H)) (λi gq s I=>I.ZC.le) ⟨I.ZC,I.n,I.ff,λe=>(by exact(sN ke e).elim),λø=>⟨H,λr w h=>absurd h (iF r)⟩⟩ (λi a d ZM gq s K' hi ha I hK=>S6 h hF hi ha I hK) λz' s rC=>hK .next _ _ (vA z' H _ ?_ ⟨rC.ZC,rC.n,rC.ff,λq r w hr hw=>by rw[(rC.le q).1]at hw ⊢;exact(rC.le q).2 r w hr hw,H⟩))));have e:=I.aA;rw[sI hk]at e;refine D e ?_
 by_cases q:z'.2.ah=1
 .exact D (sI q) (tD [2,1] 0x4250080109002004a520822 H (rC.sm q))
 .exact D (sH q) (D ((rC.le q).1) (iC _))
theorem VI(G:Gm):LK G λX=>if X<G.aa/\X≠1 then J [X] else sD:=by
 refine⟨λX hX=>?_,λX w e=>?_,λX w e=>?_,λX w e=>?_⟩<;>try dsimp only at e
 .dsimp only
  by_cases q:X=1
  .exact D (sH (λh=>h.2 q)) (D (sI q) H)
  .exact D (sI ⟨hX,q⟩) (D (sH q) H)
 all_goals
  split at e
  .refine tj (gv e) ?_
   rename_i hq
   first | exact .refl _ _ | exact(λh3 ø t ht=>by rw[gJ]at ht;exact D ht ⟨h3,hq.1⟩) | exact Nat.one_le_pow _ _ (by decide)
  .exact uH e
theorem ID(h:GX E g G x)(hF:G.ZU)(k:∀W,PH G W->RL E K (rM (R G.ZH) λX=>Bh (W X))):AM [Y g] E K:=by
 refine HJ (dC (sX.init E) λc s O=>?_);have hx:=h.Zz O.le;refine dH (loc:=λ(z:Wd×Zg)=>[J (Y g),J (Y c),z.2.x0,sD,sD,sD]) (z0:=((λX=>if X<G.aa/\X≠1 then J [X] else sD),⟨0,0,0,[],[],id,λø=>[],sD,sD,sD,sD,sD,sD⟩)) (λi z s=>sX E s (Pd.ZC ⟨g,c,0,0,0,0,[],[]⟩ z)/\z.2.n=i/\z.1=λX=>if X<G.aa/\X≠1 then J [X] else sD) (rK (Z H) (cK hx.hg) cF (xm hx)) (gA hF.toSm.n (by decide)) (uS O H rfl) (λi z s K' hi I hK=>?_) λz s I=>sP ?_
 .have hx.hg:=(h.Zz I.1.le).hg;refine cU I.1 0 H (v:=Bh (if i<G.aa/\i≠1 then J [i] else sD)) (Z H) (Ev.ife (rO (rS (rK (Z H) (cK hx.hg) (cE (Z H) cF) (vP (h.Zz I.1.le)))) λø=>rO (rL (Z H) rD r4) λø=>rR) (λq=>?_) λq=>?_) (D uJ (D I.2.1 (gA (iG hi) (gA hF.toSm.n (by decide))))) λs O=>?_
  .exact D (sI (by simp at q;exact⟨q.1,λh=>q.2 (sJ jz h)⟩)) (rG (cE (Z H) cF) (gQ H))
  .exact D (sH (by simp at q;exact λh=>h.2 (iQ (q h.1)))) rD
  .have e:Bh (if i<G.aa/\i≠1 then J [i] else sD)=(λX=>Bh (z.1 X)) i:=D I.2.2 H;rw[e,<- I.2.1,<- G1]at O;exact hK .next _ _ (wU (z.1,{z.2 with n:=i+1,x0:=J (f0 i)}) H (by rw[I.2.1]at O;exact O) H I.2.2)
 .refine cI rD (sP (cJ (L.Do (z0:=(z.1,{z.2 with ah:=1,a5:=sD,bM:=sD})) (Pe G ⟨g,c,0,0,0,0,[],[]⟩ E) ⟨I.1,I.2.1,by refine D (show(z.1,({z.2 with ah:=1,a5:=sD,bM:=sD}:Zg)).1=_ from I.2.2) ?_;exact VI G,λq=>absurd rfl q,H⟩ λm z s I=>(tC _ (rS (Z H)) (λhk Kb G'=>QJ h hF I (sQ hk) G') (λhk=>sP (cJ (cP (Z H) ?_)))))));have e:=I.ZC.Zu 0 H;rw[I.n]at e;exact k z.1 ⟨I.ff.tm,I.ff.so,I.ff.tw,I.le (sW hk)⟩ c s I.ZC.le (I.ZC.fr 0 H) e
noncomputable def sw(W:Wd):V M->V M
 | []=>[]
 | s::r=>if s=0 then sw W r else (W s).getD []++sw W r
theorem Pf:sw W (i::w)=if i=0 then sw W w else (W i).getD []++sw W w:=H
noncomputable def Zk.ZA(A:Ag)(z:Zg):uZ:=[J (Y A.ae),J (Y A.az),J (Y A.aE),J (f2 (nL z.ag)),z.x0]
theorem PH.nt(h:PH G W)(hF:G.ZU)(h0:X≠0)(hX:X=0\/(3<=X/\X<R G.ZH/\X≠G.aa)):∃w,W X=J w/\R w<=1/\DL G [X] w/\∀t∈w,3<=t/\t<G.aa:=by
 refine zY (hX.resolve_left h0) λh3 hn Z0=>?_
 rcases iZ X G.aa with hl | hl
 .have e:=h.tm X hl;rw[sH (by exact tY [3,1] 0x4240888008402 H h3)]at e;exact(wU ([X]) e (gC _) (h.so _ _ e) (h.tw _ _ e h3 Z0))
 ·(refine vS (hF.one X (kr hl (Ne.symm Z0)) hn) λr a hr e1 e2 r9=>xA r9 λh3a Z6=>?_)
  have ea:=h.tm a Z6;rw[sH (by exact tY [3,1] 0x4240888008402 H h3a)]at ea;refine s9 (h.cl r [a] hr (D e2 ((QG ea)))) λw hw hle=>?_
  rw[e1]at hw;exact(wU w hw hle (h.so _ _ hw) (h.tw _ _ hw h3 Z0))
theorem HY{G:Gm}{W:Wd}(h:PH G W)(hF:G.ZU):∀{row:V M},(∀X∈row,X=0\/(3<=X/\X<R G.ZH/\X≠G.aa))->R (sw W row)<=R row/\DL G (row.filter (·≠0)) (sw W row)/\∀t∈sw W row,3<=t/\t<G.aa
 | [],_=>(uS (gC _) .nil (λt h=>by cases h))
 | s::r,hr=>by
  refine zY (HY h hF (row:=r) λX hX=>hr X (gH _ hX)) λh1 h2 h3=>?_
  by_cases e:s=0
  ·(rewrite[Pf];refine D (sI e) (D (l6 (by simpa using e)) ?_))
   exact(uS (lF h1) h2 h3)
  .refine yf (h.nt hF e (hr s gI)) λw hw hl hd ht=>?_
   (rewrite[Pf];refine D (sH e) (D (l7 (by simpa using e)) (D hw ?_)))
   refine(uS ?_ (hd.append h2) (λt hm=>(gP.mp hm).elim (ht t) (h3 t)));refine(?_:R (w++sw W r)<=R r+1);exact D gK (uy [1] 0x2601480090012040628403 H h1 hl)
theorem YA:sw W []=[]:=H
theorem N4(h:w[i]?=J X):sw W (w.take (i+1))=sw W (w.take i)++if X=0 then [] else (W X).getD []:=by
 induction w generalizing i with
 | nil=>exact uH h
 | cons a r ih=>
  cases i with
  | zero=>
   refine tj (gv h) ?_;show sw W [a]=_;rw[Pf];by_cases e:a=0<;>simp[e,Pf,YA]
  | succ i=>
   (refine D nV ?_;rewrite[Pf];refine D (ih h) (D nV ?_);rewrite[Pf])
   by_cases e:a=0
   .exact D (sI e) (D (sI e) H)
   .rw[sH e,sH e,gW]
theorem M4(h:GX E g G x)(hF:G.ZU)(he:E a=J (f4 556 d [f2 (nL ts),f0 t,f2 (nL w0),b]))(hz:R ts+R w0<=9000000)(hr:∀X∈ts++[t]++w0,X=0\/(3<=X/\X<R G.ZH/\X≠G.aa))
  (k:∀v s',Le E s'->R v<=R ts+R w0+1->DL G ((ts++[t]++w0).filter (·≠0)) v->(∀t∈v,3<=t/\t<G.aa)->K (f2 (nL v)) s'):wO [Y a,Y g] E K:=by
 refine Dl (cQ (cO (cC (cG H (ID h hF λW hW=>RL.ZC (sX.init E) λc s O=>sP ?_)))));have hlen:R (ts++[t]++w0)=R ts+R w0+1:=by simp only[gK,jU];exact gZ (tD [1] 0x25200050048000481 H) (tD [1] 0x1401200000948000481 H)
 refine cI (rG cF (gE _)) (sP (cJ (dV (loc:=Zk.ZA ⟨a,g,c,0,0,0,[],[]⟩) (z0:=⟨0,0,0,[],[],id,λø=>[],sD,sD,sD,sD,sD,sD⟩) (λi z s'=>s'=s/\z.ag=sw W ((ts++[t]++w0).take i)) (rE (rE (rH (Z H) (rT (O.le _ _ he) H)) (v:=f2 (nL (ts++[t]))) (rG (cE (rH (Z H) (rT (O.le _ _ he) H)) cF) (gQ H)) (BP (tD [9000000,1,10000000] 0x1042120024004a400402 H hz))) (rH (Z H) (rT (O.le _ _ he) H)) (BP (by exact D gK (tD [9000000,1,10000000] 0x412842400024004a400402 H hz)))) ⟨H,H⟩ (λi v z s' K' hv I hK=>?_) λz s' I=>?_)))
 .obtain ⟨rfl,I⟩:=I
  (refine s9 (wa hv) λX hX e9=>?_;refine D e9 ?_)
  refine cL (rL (Z H) rD rZ) (λAT=>?_) λAT=>sP ?_
  .have AT:=by simpa using AT
   refine hK .cont _ _ ⟨{z with x0:=J (f0 X)},H,H,?_⟩;exact D (N4 hX) (D (sI AT) (D (gY _) I))
  .have AT:=by simpa using AT
   refine tW (hW.nt hF AT (hr X (gz hX))) λw hw hl ø=>?_
   have a1:=ux (f:=λX=>Bh (W X)) (((hr X (gz hX)).resolve_left AT).2.1);rw[hw]at a1;have hs:sw W ((ts++[t]++w0).take (i+1))=z.ag++w:=by rw[N4 hX,sH AT,hw,I];rfl
   have hle:R z.ag+R w<=10000000:=by
    have:=(HY hW hF (row:=(ts++[t]++w0).take (i+1)) λX hX=>hr X (jC hX)).1;rw[hs,gK,iA]at this;exact gA this (gA (iT _ _) (uy [1,9000000,10000000] 0x4120481098a0080013140020443 H hlen hz))
   exact cL (rL (rE (Z H) (Z H) (r5 (O.Zu 0 H) a1)) rD (se (y:=.none) nofun)) (λw0=>ft w0) λø=>sP (cJ (cI (v:=f2 (nL (z.ag++w))) (rE (Z H) (rE (Z H) (Z H) (r5 (O.Zu 0 H) a1)) (BP hle)) (sP (hK .next _ _ (tC ({z with ag:=z.ag++w,x0:=J (f0 X)}) H rfl hs.symm)))))
 .obtain ⟨rfl,I⟩:=I;rw[sU,ic]at I;refine sP (cP (Z H) (?_:K (f2 (nL z.ag)) s'));exact D I (k _ _ O.le (hlen▸(HY hW hF hr).1) (HY hW hF hr).2.1 (HY hW hF hr).2.2)
noncomputable def bt(F:V M)(X sC:M):Prop:=(F.getD X 0).testBit sC=pH
theorem LL(h:bt w X sC):X<R w:=by
 rcases iZ X (R w) with q | q
 .exact q
 .unfold bt at h;rw[iJ,iz q,sF.getD_none,kO]at h;exact ft h
theorem CS:bt (xn w m) X sC<->bt w X sC\/(bt w X m/\bt w m sC):=by
 rcases iZ X (R w) with q | q
 .have e:(xn w m).getD X 0=UR w m (w.getD X 0):=by
   refine D (iJ) (D (gG) (D (iJ) (D (gM q) ?_)));rfl
  unfold bt;refine D e ?_;unfold UR
  by_cases h:(w.getD X 0).testBit m=pH
  ·(refine D (sI h) ?_;rewrite[jt];refine D (jo _ _) ?_)
   exact⟨λo=>o.imp id λb=>⟨h,b⟩,λo=>o.imp id kZ⟩
  .exact D (sH h) ⟨Or.inl,λo=>o.elim id λb=>absurd b.1 h⟩
 .constructor
  .intro h;have:=LL h;rw[IZ]at this;exact(KP [] 0x42842520402 H q this).elim
  .intro h;exact(KP [] 0x42842520402 H q (h.elim LL λh=>LL h.1:X<R w)).elim
noncomputable abbrev Ch(P:M->M->Prop):M->M->Prop:=Relation.TransGen P
theorem Ch.trans(h:Ch P X sC)(k:Ch P sC i):Ch P X i:=by
 induction k with
 | single p=>exact .tail h p
 | tail _ p ih=>exact .tail ih p
theorem Gn{P:M->M->Prop}:∀(ms:V M) {F:V M},(∀X sC,bt F X sC->Ch P X sC)->∀X sC,bt (ms.foldl xn F) X sC->Ch P X sC
 | [],_,h=>h
 | m::ms,F,h=>Gn ms λX sC b=>(CS.mp b).elim (h X sC) λb=>(h X m b.1).trans (h m sC b.2)
theorem HZ{F0:V M}:∀m,(∀X sC,bt F0 X sC->bt ((gN m).foldl xn F0) X sC)/\∀k X sC,k<m->bt ((gN m).foldl xn F0) X k->bt ((gN m).foldl xn F0) k sC->bt ((gN m).foldl xn F0) X sC
 | 0=>⟨λX sC h=>h,λk X sC h=>absurd h (iF _)⟩
 | m+1=>by
  refine xA (HZ (F0:=F0) m) λh1 h2=>D ll (D mQ ?_)
  generalize (gN m).foldl xn F0=F at h1 h2;refine(?_:(∀X sC,bt F0 X sC->bt (xn F m) X sC)/\∀k X sC,k<m+1->bt (xn F m) X k->bt (xn F m) k sC->bt (xn F m) X sC);refine⟨λX sC h=>CS.mpr (.inl (h1 X sC h)),λk X sC hk a b=>CS.mpr ?_⟩;have a:=CS.mp a;have b:=CS.mp b
  by_cases e:k=m
  .obtain rfl:=e.symm;exact .inr ⟨a.elim id mK,b.elim id kZ⟩
  .have hk:k<m:=Io hk e
   rcases a with a | ⟨a1,a2⟩<;>rcases b with b | ⟨b1,b2⟩
   .exact .inl (h2 k X sC hk a b)
   .exact .inr ⟨h2 k X m hk a b1,b2⟩
   .exact .inr ⟨a1,h2 k m sC hk a2 b⟩
   .exact .inr ⟨a1,b2⟩
theorem M5{F:V M}(hb:∀X sC,bt F X sC->sC<R F):bt (J1 F) X sC<->Ch (bt F) X sC:=by
 constructor
 .exact Gn _ (λX sC h=>.single h) X sC
 .intro h;refine xA (HZ (F0:=F) (R F)) λh1 h2=>?_
  induction h with
  | single p=>exact h1 _ _ p
  | tail c p ih=>
   refine h2 _ _ _ ?_ ih (h1 _ _ p);exact LL p
noncomputable def Pg(G:Gm)(X sC:M):Prop:=∃r,r<R G.ZF/\G.ZE r=X/\(G.Zv r)[0]?=J sC
noncomputable def Y3(G:Gm)(I:V (M×M))(p:M×M):Prop:=p∈I\/(p.2=0/\p.1<R G.ZF/\∃q∈I,∃X,(G.Zv q.1)[q.2]?=J X/\(G.ZE p.1=X\/Ch (Pg G) X (G.ZE p.1)))
noncomputable def M6(x:M):V M->V M
 | []=>[x]
 | y::r=>if x<=y then x::y::r else y::M6 x r
theorem M7:M6 i (y::w)=if i<=y then i::y::w else y::M6 i w:=H
noncomputable def um:V M->V M
 | []=>[]
 | x::r=>M6 x (um r)
theorem FW(x:M):∀l,(M6 x l).Perm (x::l)
 | []=>kQ _
 | y::r=>by
  rw[M7];split
  .exact kQ _
  .exact((FW x r).cons y).trans (l8 ..)
theorem tE:∀l,(um l).Perm l
 | []=>kQ _
 | x::r=>(FW x _).trans ((tE r).cons x)
theorem Gp{x:M}:∀{l:V M},l.Pairwise (·<=·)->(M6 x l).Pairwise (·<=·)
 | [],_=>lY ..
 | y::r,h=>by
  refine xA (jP.mp h) λh1 h2=>?_
  rw[M7];split
  .rename_i q
   exact jP.mpr ⟨λz hz=>(gX.mp hz).elim (λe=>e▸q) λhz=>gA q (h1 z hz),h⟩
  .rename_i q
   refine jP.mpr ⟨λz hz=>?_,Gp h2⟩
   rcases gX.mp ((FW x r).mem_iff.mp hz) with e | hz
   .exact D e (iG (Nat.not_le.mp q))
   .exact h1 z hz
theorem ES:∀l,(um l).Pairwise (·<=·)
 | []=>.nil
 | x::r=>Gp (ES r)
theorem N5(x:M):∀l:V M,qQ (x:al) (l.map jz)=(M6 x l).map jz
 | []=>rfl
 | y::r=>by
  refine(?_:(if (x:al)<=(y:al) then _ else _)=_);rw[M7]
  by_cases h:x<=y
  .exact D (sI h) (D (sI (jf.mpr h)) H)
  .exact D (sH h) (D (sH λq=>h (jf.mp q)) (D (N5 x r) H))
theorem LM:∀l:V M,qR (l.map jz)=(um l).map jz
 | []=>rfl
 | x::r=>by
  refine(?_:qQ (x:al) (qR (r.map jz))=_);exact D (LM r) (D (N5 _ _) H)
theorem yq{ns:V M}(hc:L.ī s b (nL ns))(hz:R ns<64)(k:RL s K (nL (um ns))):qS [b] s K:=by
 refine(uY b (ns.map jz) H ?_ (D (gy _) hz) (λc h=>?_))
 .exact D iS hc
 exact D (D (LM _) (D iS H):(qR (ns.map jz)).map f0=nL (um ns)) (k c _ (Le.new h) h (te ..))
set_option tactic.hygienic true in
theorem BQ{α β:Type}{f:α->β}{l:V β}{I:V α}(h:l.Perm (I.map f)):∃rC:V α,rC.Perm I/\rC.map f=l:=by
 generalize hm:I.map f=m at h
 induction h generalizing I with
 | nil=>exact⟨[],by rw[lj.mp hm],H⟩
 | cons x _ ih=>
  cases I with
  | nil=>exact(sN kL hm).elim
  | cons a I=>
   (refine xA (kP hm) λe8 e9=>?_;refine tj e8 ?_;subst e9)
   exact s9 (ih H) λrC h1 h2=>(ti (a::rC) (h1.cons a) (D iN (D h2 H)))
 | swap x y l=>
  match I,hm with
  | a::b::I,hm=>
   cases hm;exact(ti (b::a::I) (l8 ..) H)
 | trans _ _ ĕ Ä=>
  exact s9 (Ä hm) λrC h1 h2=>s9 (ĕ h2) λJ' h3 h4=>(ti J' (h3.trans h1) h4)
noncomputable def Xg(cl:sE)(j:M)(K:KS)(ρ:uZ)(y:LV):LV->LH->Prop:=λx s2=>∃pre d fs,x=Y pre/\s2 pre=J (f4 cl d fs)/\j<=R fs/\K .next ρ (ur s2 pre (f4 cl d (Cs fs j y)))
theorem cY(h:mo ρ s λv s1=>e ρ s1 (Xg a j (A3 bb Kb) ρ v)):qo (L.ZG a j e mo) bb ρ s Kb:=h
theorem tS(O:sX E s pre)(i:M)(q:pre[i]?=J (a,f4 g d fs))(ho:Ev e ρ s (Y a))(hj:j<=R fs)(k:∀s',sX E s' (pre.set i (a,f4 g d (Cs fs j v)))->bb ρ s' Kb):e ρ s (Xg g j (A3 bb Kb) ρ v):=
 ho _ (uQ _ _ _ H (O.Zu i q) hj (k _ (O.set i q _)))
theorem cS{y:LV}(O:sX E s pre)(i:M)(q:pre[i]?=J (a,f4 g d fs))(hv:Ev mo ρ s y)(ho:Ev e ρ s (Y a))(hj:j<=R fs)(k:∀s',sX E s' (pre.set i (a,f4 g d (Cs fs j y)))->bb ρ s' Kb):qo (L.ZG g j e mo) bb ρ s Kb:=
 cY (hv _ (tS O i q ho hj k))
theorem dS(O:sX E s pre)(h:NX es ρ s vs)(k:∀x d s',sX E s' ((x,f4 c d [])::pre)->fn (Y x::vs) s' λr s''=>r=.none/\KE (Y x) s''):L.new c fn es ρ s KE:=
 h _ λx d hx ø ø=>k x d _ (O.new hx)
theorem VJ:(rM i λX=>f0 (F X:M))=nL ((gN i).map F):=by unfold rM nL;exact D iS H
theorem UU(l:V M):nL l=rM (R l) λi=>f0 (l.getD i 0:M):=by
 apply jj;intro i
 rcases iZ i (R l) with h | h
 .refine D (ux h) (D (xk (gM h)) (D (iJ) (D (gM h) ?_)));rfl
 .exact D (iz (D (sU _) h)) (D (iz (D uJ h)) H)
noncomputable def Ph(G:Gm)(lc:M->M):Prop:=∀X sC,X<R G.ZH->((lc X).testBit sC=pH<->Ch (Pg G) X sC)
noncomputable def Zl.ZA(A:Ag)(z:Zg):uZ:=[J (Y A.ae),J (Y A.az),J (Y A.aE),z.x0]
noncomputable abbrev VK(G:Gm)(A:Ag)(st:LH)(l:V (sE×LO))(i:M)(z:Zg)(s:LH):Prop:=sX st s ((A.aE,f1 (rM z.n λX=>f0 (z.af X:M)))::(A.ae,f4 306 A.au [Y A.az])::l)/\z.n=R G.ZH/\∀X sC,(z.af X).testBit sC=pH<->∃r,r<i/\G.ZE r=X/\(G.Zv r)[0]?=J sC
def VK.ZC{l:V (sE×LO)}(h:VK G gk E l i z s):=h.1
def VK.n(h:VK G gk E pre i z s):=h.2.1
def VK.af(h:VK G gk E pre i z s):=h.2.2
theorem Xh(hS:G.Sm)(h:∀X sC,(ms X).testBit sC=pH<->∃r,r<R G.ZF/\G.ZE r=X/\(G.Zv r)[0]?=J sC):Ph G λX=>(J1 ((gN (R G.ZH)).map ms)).getD X 0:=by
 have hlen:R ((gN (R G.ZH)).map ms)=R G.ZH:=D (gy _) (D iq H)
 have WP:∀X sC,bt ((gN (R G.ZH)).map ms) X sC<->Pg G X sC:=λX sC=>by
  constructor
  .intro hb;have hX:=LL hb;rw[hlen]at hX;unfold bt at hb;rw[iJ,gG,kJ hX]at hb;exact(h X sC).mp hb
  .rintro ⟨r,hr,e1,e2⟩
   have hX:X<R G.ZH:=e1▸hS.lf r hr;unfold bt;refine D (iJ) (D (gG) (D (kJ hX) ?_));exact(h X sC).mpr (tC r hr e1 e2)
 intro X sC hX;refine(M5 (F:=(gN (R G.ZH)).map ms) (λX sC hb=>?_)).trans ?_
 .exact tW ((WP X sC).mp hb) λr hr ø e=>D hlen (hS.ZT hr e)
 .constructor<;>intro hc
  .induction hc with
   | single p=>exact .single ((WP _ _).mp p)
   | tail _ p ih=>exact .tail ih ((WP _ _).mp p)
  .induction hc with
   | single p=>exact .single ((WP _ _).mpr p)
   | tail _ p ih=>exact .tail ih ((WP _ _).mpr p)
theorem M8(F:V M):R (J1 F)=R F:=I0 _ _
theorem IE(h:GX E g G x)(hS:G.Sm)(O:sX E s ((a,f4 306 d [])::pre))(k:∀lc lf s',Ph G lc->sX E s' ((lf,f1 (rM (R G.ZH) λX=>f0 (lc X:M)))::(a,f4 306 d [Y g,Y lf])::pre)->K .none s'):Ay [Y a,Y g] s K:=by
 refine Hu (cS O 0 H (Z H) (Z H) (gE _) λs O=>(cQ (eh (n:=R G.ZH) O rD (λs' le=>?_) (gA hS.n (by decide)) λc s O=>sP ?_)))
 .have hx:=h.Zz (O.le.trans le);exact rK (Z H) (cK hx.hg) cF (xm hx)
 have hx.hg:=O.le _ _ h.hg;have e0:hU (R G.ZH) (f0 0)=rM (R G.ZH) λX=>f0 ((λø=>0:M->M) X:M):=by unfold rM;exact D lE (D iq H)
 rw[e0]at O;refine dY (loc:=Zl.ZA ⟨a,g,c,d,0,0,[],[]⟩) (z0:=⟨R G.ZH,0,0,[],[],λø=>0,λø=>[],sD,sD,sD,sD,sD,sD⟩) h (VK G ⟨a,g,c,d,0,0,[],[]⟩ E pre) (rH (Z H) (rT hx.hg H)) (λi z s I=>I.ZC.le) ⟨O,H,λX sC=>⟨λq=>(by rw[kO]at q;exact ft q),λZN=>s9 ZN λr q ø=>absurd q (iF _)⟩⟩ (λi ra rd ZM z s K' hi v6 I hK=>?_) λz s I=>sP ?_
 .have h2:=I.ZC.Zu 0 H;refine cL (rL (rJ (cE (rH (Z H) (rT (I.ZC.le _ _ v6) H)) cF) sb) rD Op.gt) (λq=>?_) λq=>?_
  .have q:0<R (G.Zv i):=by have:=sQ q;rw[(sU (G.Zv i))]at this;exact g8.mp this
   have hY:=gM q;generalize (G.Zv i)[0]=sC at hY;refine dF I.ZC 0 (G.ZE i) H (y:=f0 (z.af (G.ZE i)|||2 ^ sC:M)) (rE (rE (Z H) (rH (Z H) (rT (I.ZC.le _ _ v6) H)) (r5 h2 (ux (f:=λX=>f0 (z.af X:M)) (I.n▸hS.lf i hi)))) (rE rD (rE (rH (Z H) (rT (I.ZC.le _ _ v6) H)) rD (r8 (n:=0) (xk hY))) (sq (gA (iG (hS.ZT hi hY)) (gA hS.n (by decide))))) sj) (Z H) (rH (Z H) (rT (I.ZC.le _ _ v6) H)) (D uJ (D I.n (hS.lf i hi))) λs O=>?_
   rw[BN]at O;refine hK .next _ _ (ti ({z with af:=vm z.af (G.ZE i) (z.af (G.ZE i)|||2 ^ sC),x0:=J (Y ra)}) H ⟨O,I.n,λX bv=>?_⟩);refine(?_:(vm z.af (G.ZE i) _ X).testBit bv=pH<->_);unfold vm
   by_cases e:X=G.ZE i
   ·(refine D (sI e) ?_;rewrite[jt];refine D (jo _ _) ?_;rewrite[I.af];refine D mS (AU u2 ?_))
    constructor
    .rintro (⟨r,h1,h2,h3⟩ | e2)
     .exact(tC r (ja h1) (h2.trans e.symm) h3)
     .exact(tC i (iC _) e.symm (e2▸hY))
    .rintro ⟨r,h1,h2,h3⟩
     rcases kq (kM.mp h1) with h1 | h1
     .exact .inl (tC r h1 (h2.trans e) h3)
     .rw[h1,hY]at h3;exact .inr (gv h3)
   ·(refine D (sH e) ?_;rewrite[I.af])
    constructor
    .rintro ⟨r,h1,h2,h3⟩;exact(tC r (ja h1) h2 h3)
    .rintro ⟨r,h1,h2,h3⟩
     rcases kq (kM.mp h1) with h1 | h1
     .exact(tC r h1 h2 h3)
     .exact absurd (h1▸h2).symm e
  .have q:R (G.Zv i)<=0:=by have:=sW q;rw[(sU (G.Zv i))]at this;exact jv.mp λh=>this (g8.mpr h)
   refine hK .next _ _ (ti ({z with x0:=J (Y ra)}) H ⟨I.ZC,I.n,λX bv=>(I.af X bv).trans ?_⟩)
   constructor
   .rintro ⟨r,h1,h2,h3⟩;exact(tC r (ja h1) h2 h3)
   .rintro ⟨r,h1,h2,h3⟩
    rcases kq (kM.mp h1) with h1 | h1
    .exact(tC r h1 h2 h3)
    .rw[h1,iz q]at h3;exact uH h3
 .have h2:=I.ZC.Zu 0 H;rw[VJ,I.n]at h2;refine cO (cC (cG H (J4 h2 (D (gy _) (D iq (gA hS.n (by decide)))) (RL.ZC I.ZC λc s O=>tS O 2 H (Z H) (gC 1) λs O=>?_))));rw[UU,M8,gy,iq]at O;exact k _ c s (Xh hS I.af) (O.sub (.cons_cons _ (.cons _ (mR _))))
theorem LN(h:(nL (I.map G.it))[i]?=J v):∃p,I[i]?=J p/\v=f0 (G.it p:M):=by
 refine s9 (wa h) λn h1 h2=>?_
 rw[gG]at h1
 (refine s9 (gR.mp h1) λp h3 e9=>?_;subst e9)
 exact⟨p,h3,h2⟩
theorem CT:∀l:V M,uT 3 (nL l)=pH
 | []=>rfl
 | x::r=>by
  refine(?_:(xC 3 (f0 x)&&uT 3 (nL r))=pH);exact D (CT r) H
theorem M9:(f0 (i:al))∈nL w<->i∈w:=by
 refine AU gL ?_
 constructor
 .rintro ⟨m,h,e⟩
  have:m=i:=by cases e;rfl
  exact this▸h
 .exact λh=>(ti i h H)
theorem fZ:Op (ql pH (f0 i) (f2 (nL w))) s (ii (!b8 (i∈w))):=λK k=>by
 refine(uS H (CT w) (D (t6.mpr M9:decide (f0 (i:al)∈nL w)=b8 (i∈w)) ?_));simpa using k
theorem LQ:∀{l:V (M×V M)} {i:M},(∀x∈l,R x.2<=3)->R (BM l i)<=R l*4
 | [],_,_=>gE _
 | x::l,i,h=>by
  have h1:=LQ (l:=l) (i:=i+1) λy hy=>h y (gH _ hy)
  (rewrite[CP];refine D gK (D jA (D iu (D (ko _ _) ?_))));exact uy [4,3,1] 0x1300602882400024084810180328403 H h1 (h x gI)
theorem Gm.Sm.cnt(h:G.Sm):G.count<=20:=by
 have:∀x∈G.ZF,R x.2<=3:=λx hx=>by
  refine xE (ie hx) λr hr=>?_
  have e:=h.au r;unfold Gm.Zv at e;rw[iJ,hr]at e;exact e
 exact gA (LQ this) (gA (kA _ h.aO) (by decide))
theorem LR(hn:I.Nodup)(ho:∀p∈I,G.Ok p):(I.map G.it).Nodup:=by
 refine jV.mpr (hn.imp_of_mem λ{a b} ha hb Z0 e=>Z0 (dN (ho a ha) (ho b hb) e))
theorem vQ(hS:G.Sm)(hn:I.Nodup)(ho:∀p∈I,G.Ok p):R I<=20:=by
 have:=tP (m:=gN G.count) (LR hn ho) λx hx=>by
  exact vp x (gL.mp hx) λp hp=>iM.mpr (ho p hp).lt
 rw[gy,iq]at this;exact gA this hS.cnt
theorem QK(hp:G.Ok p)(ho:∀p∈I,G.Ok p):G.it p∈I.map G.it<->p∈I:=by
 constructor
 .intro h;refine s9 (gL.mp h) λq hq e=>?_
  rwa [dN (ho q hq) hp e]at hq
 .exact λh=>iD h
noncomputable abbrev CX(st:LH)(a g d lf:sE)(G:Gm)(lc:M->M):Prop:=st a=J (f4 306 d [Y g,Y lf])/\st lf=J (f1 (rM (R G.ZH) λX=>f0 (lc X:M)))/\Ph G lc
def CX.ar(h:CX s a g d c G F):=h.1
def CX.af(h:CX s a g d c G F):=h.2.1
def CX.lc(h:CX s a g d c G F):=h.2.2
theorem CX.Zz(h:CX s a g d c G F)(l:Le s E):CX E a g d c G F:=⟨l _ _ h.ar,l _ _ h.af,h.lc⟩
noncomputable def VL(G:Gm)(lc:M->M)(m:M)(p:M×M):M:=match (G.Zv p.1)[p.2]? with | some X=>m|||2 ^ X|||lc X | none=>m
noncomputable def Dm(G:Gm)(lc:M->M)(I:V (M×M)):M:=I.foldl (VL G lc) 0
theorem Xi:(VL G F m p).testBit sC=pH<->m.testBit sC=pH\/∃X,(G.Zv p.1)[p.2]?=J X/\(sC=X\/(F X).testBit sC=pH):=by
 unfold VL;cases e:(G.Zv p.1)[p.2]? with
 | none=>exact⟨.inl,λh=>h.elim id λh=>s9 h λø h ø=>uH h⟩
 | some bv=>
  refine(?_:(m|||2 ^ bv|||F bv).testBit sC=pH<->_)
  (rewrite[jt,jt];refine D (jo _ _) (D (jo _ _) (D mS (AU u2 ?_))))
  exact or_assoc.trans (w8 ⟨λh=>⟨bv,H,h.imp ky id⟩,λh=>s9 h λX e h=>(D (gv e) (h.imp ky id):bv=sC\/(F bv).testBit sC=pH)⟩)
theorem S7:(I.foldl (VL G F) m).testBit sC=pH<->m.testBit sC=pH\/∃q∈I,∃X,(G.Zv q.1)[q.2]?=J X/\(sC=X\/(F X).testBit sC=pH):=by
 induction I generalizing m with
 | nil=>exact⟨.inl,λh=>h.elim id λh=>s9 h λø h ø=>uG h⟩
 | cons p I ih=>exact ih.trans ((or_congr_left Xi).trans (or_assoc.trans (w8 (Zb (p:=λq:M×M=>∃X,(G.Zv q.1)[q.2]?=J X/\(sC=X\/(F X).testBit sC=pH))).symm)))
theorem CU(h:(G.Zv p.1)[p.2]?=J X):G.M2 p=(X:M):=by unfold Gm.M2;exact D h H
theorem CV(h:(G.Zv p.1)[p.2]?=sD):G.M2 p=-1:=by unfold Gm.M2;exact D h H
noncomputable def Zm.ZA(a:sE)(t:V M)(z:Zg):uZ:=[J (Y a),J (f2 (nL t)),J (f0 z.aA),z.x0,z.a5]
noncomputable def XU:Zg:=⟨0,0,0,[],[],id,λø=>[],sD,sD,sD,sD,sD,sD⟩
theorem QL(h:GX E g G x)(hS:G.Sm)(hc:CX E a g d c G F)(ho:∀p∈I,G.Ok p):Op (yB [Y a,f2 (nL (I.map G.it))]) E (f0 (Dm G F I:M)):=λKE k=>by
 refine Fu (cI rD (sP (dV (loc:=Zm.ZA a (I.map G.it)) (z0:=XU) (λi z s=>s=E/\z.aA=Dm G F (I.take i)) (Z H) ⟨H,H⟩ (λi v z s K' hv rC hK=>?_) λz s rC=>?_)))
 .obtain ⟨rfl,rC⟩:=rC;refine s9 (LN hv) λp hp ñ=>?_;refine D ñ ?_
  have e4:Dm G F (I.take (i+1))=VL G F z.aA p:=by
   refine xE (gB.mp hp) λhi e=>?_
   unfold Dm;rw[lC hi,mQ,e,rC];rfl
  refine cI (rK (rH (Z H) (rT hc.ar H)) (cK h.hg) (cE (Z H) cF) (C7 h (ho p (gz hp)))) (sP ?_);cases hX:(G.Zv p.1)[p.2]? with
  | none=>
   exact D (CV hX) (cL (t:=Zt) (rL (Z H) rD rY) (λq=>ft q) λø=>(hK .next _ _ (tC ({z with x0:=J (f0 (G.it p:M)),a5:=J (f0 (-1))}) H rfl (by refine D e4 ?_;unfold VL;exact D hX H))))
  | some X=>
   refine D (CU hX) ?_;have İ:=hS.ZT (ho p (gz hp)).ao hX;refine cL (t:=pH) (tj (sM (ig X)) (rL (Z H) rD rY)) (λø=>?_) λq=>tf q
   exact cI (v:=f0 (z.aA|||2 ^ X|||F X:M)) (rE (rE (Z H) (rE rD (Z H) (sq (gA (iG İ) (gA hS.n (by decide))))) sj) (rE (rH (Z H) (rT hc.ar H)) (Z H) (r5 hc.af (ux (f:=λX=>f0 (F X:M)) İ))) sj) (sP (hK .next _ _ (tC ({z with aA:=z.aA|||2 ^ X|||F X,x0:=J (f0 (G.it p:M)),a5:=J (f0 (X:M))}) H rfl (by refine D e4 ?_;unfold VL;exact D hX H))))
 .obtain ⟨rfl,rC⟩:=rC;rw[sU,gy,ic]at rC;rw[<- rC]at k;exact sP (cP (Z H) k)
theorem BR(h:GX s g G x)(hS:G.Sm)(hX:X<R G.ZH)(k:RL s K (nL (G.ZL X))):uE [Y g,f0 X] s K:=by
 refine xE (⟨_,gM (h.š▸hX)⟩ : ∃b,x.bl[X]?=J b) λb D_=>?_
 refine Df (cZ ((rE (rH (Z H) (rT h.hg H)) (Z H) (r5 h.Ŗ (vl D_)):Ev (pI qi (L.Zx 169 6 (U 0)) (U 1)) [J (Y g),J (f0 X)] s (Y b)) _ (eH (h.bl X b D_) (D (sU _) (D sS (tY [5,16777216] 0x4240900120402 H (gA (jb ..) (by exact D iq hS.aO):R (G.ZL X)<=5)))) λc hc=>k c _ (Le.new hc) hc (te ..))))
theorem yR{bv:Type}{loc:bv->uZ}{z0:bv}(inv:M->bv->LH->Prop)(hl:∀i z s,inv i z s->s l=J (f1 vs))(h0:inv 0 z0 s)
  (step:∀i v z s (K':KS),vs[i]?=J v->inv i z s->(∀fl em s',ue (zI loc (inv (i+1))) Kb fl em s'->K' fl em s')->bb ((loc z).set k (J v)) s K')
  (fin:∀z s,inv (R vs) z s->Kb .next (loc z) s):IV (Qw (qF k) bb (loc z0) Kb) (Y l) s:=
 Gk (hl _ _ _ h0) (Ly (λi=>zI loc (inv i)) ⟨z0,H,h0⟩ (λi ρ s ZN=>s9 ZN λz ø h=>hl _ _ _ h) (λi v ρ s K' hv ZN hK=>s9 ZN λz e h=>e▸step i v z s K' hv h hK) λρ s ZN=>s9 ZN λz e h=>e▸fin z s h)
noncomputable def IF(G:Gm)(I:V (M×M))(l:V M):V (M×M):=(l.filter λr=>!b8 (G.it (r,0)∈I.map G.it)).map λr=>(r,0)
noncomputable def Dn(G:Gm)(I:V (M×M))(bs:V M):V (M×M):=bs.flatMap λsC=>IF G I (G.ZL sC)
theorem tF{α:Type}{l:V α}{x:α}(h:l[i]?=J x):l.take (i+1)=l.take i++[x]:=by
 refine xE (gB.mp h) λhi e=>?_
 exact D (lC hi) (D e H)
theorem Pj(h:w[i]?=J sC):Dn G I (w.take (i+1))=Dn G I (w.take i)++IF G I (G.ZL sC):=by
 unfold Dn;exact D (tF h) (D oZ (D (List.flatMap_singleton _ _) H))
theorem Ja(h:w[i]?=J r):IF G I (w.take (i+1))=IF G I (w.take i)++if G.it (r,0)∈I.map G.it then [] else [(r,0)]:=by
 unfold IF;refine D (tF h) (D (jS _ _) (D gF ?_))
 congr 1
 by_cases e:G.it (r,0)∈I.map G.it
 .exact D (sI e) (D (l6 (by simp only[sM e];decide)) H)
 .exact D (sH e) (D (l7 (by simp only[sT e];decide)) H)
theorem vK:r∈G.ZL X<->r<R G.ZF/\G.ZE r=X:=by
 unfold Gm.ZL;rw[iH,iM,u2]
theorem H0(hS:G.Sm)(X:M):R (G.ZL X)<=5:=gA (jb ..) (D iq hS.aO)
theorem QM(hS:G.Sm)(I:V (M×M))(sC j:M):R (IF G I ((G.ZL sC).take j))<=5:=
 D (gy _) (gA (jb ..) (gA (jW ..) (H0 hS sC)))
theorem EU(ho:∀p∈I,G.Ok p):p∈IF G I (G.ZL sC)<->p.2=0/\p.1<R G.ZF/\G.ZE p.1=sC/\p∉I:=by
 refine AU gL ?_
 constructor
 .rintro ⟨r,hr,rfl⟩
  refine xA (iH.mp hr) λh1 h2=>xA (vK.mp h1) λh3 h4=>(AV H h3 h4 (λhm=>?_))
  rw[sM ((QK ⟨h3,gE _⟩ ho).mpr hm)]at h2;exact ft h2
 .rintro ⟨h1,h2,h3,h4⟩
  refine(ti p.1 (iH.mpr ⟨vK.mpr ⟨h2,h3⟩,?_⟩) (ji H h1:p=(p.1,0)).symm);exact D (sT (λhm=>h4 (D (ji H h1:p=(p.1,0)) ((QK (p:=(p.1,0)) ⟨h2,gE _⟩ ho).mp hm)):¬ G.it (p.1,0)∈I.map G.it)) H
theorem S8(ho:∀p∈I,G.Ok p)(hb:w.Nodup):(Dn G I w).Nodup:=by
 unfold Dn List.Nodup;refine AU List.pairwise_flatMap ⟨λsC ø=>?_,hb.imp λ{sC bv} Z0 p hp q hq e=>Z0 ?_⟩
 .unfold IF;exact jV.mpr (List.Pairwise.imp (R:=(·≠·)) (λ{a b} h (e:(a,0)=(b,0))=>h (sJ gS e)) (((List.nodup_range).filter _).filter _))
 .exact tj ((EU ho).mp hp).2.2.1 (tj ((EU ho).mp hq).2.2.1 (D e H))
theorem Gm.Sm.X_(hS:G.Sm)(h:Ch (Pg G) X sC):sC<R G.ZH:=by
 cases h with
 | single h=>exact tW h λr hr ø e=>hS.ZT hr e
 | tail _ h=>exact tW h λr hr ø e=>hS.ZT hr e
theorem H3(hS:G.Sm)(hl:Ph G F)(ho:∀p∈I,G.Ok p):(Dm G F I).testBit sC=pH<->∃q∈I,∃X,(G.Zv q.1)[q.2]?=J X/\(sC=X\/Ch (Pg G) X sC):=by
 refine AU S7 (D (kO _) ?_)
 constructor
 .rintro (h | ⟨q,hq,X,h1,h2⟩)
  .exact ft h
  .exact(vA q hq X h1 (h2.imp id (hl X sC (hS.ZT (ho q hq).ao h1)).mp))
 .rintro ⟨q,hq,X,h1,h2⟩
  exact .inr (vA q hq X h1 (h2.imp id (hl X sC (hS.ZT (ho q hq).ao h1)).mpr))
theorem N6(hS:G.Sm)(hl:Ph G F)(ho:∀p∈I,G.Ok p)(h:(Dm G F I).testBit sC=pH):sC<R G.ZH:=by
 (refine s9 ((H3 hS hl ho).mp h) λq hq r9=>s9 r9 λX h1 h2=>?_)
 exact h2.elim (λe=>e▸hS.ZT (ho q hq).ao h1) hS.X_
noncomputable abbrev B4(G:Gm)(I rC:V (M×M)):Prop:=rC.Nodup/\(∀p∈rC,G.Ok p)/\∀p,p∈rC<->Y3 G I p
def B4.nd(h:B4 G I rC):=h.1
def B4.ok(h:B4 G I rC):=h.2.1
def B4.iff(h:B4 G I rC):=h.2.2
theorem QN(hS:G.Sm)(hl:Ph G F)(ho:∀p∈I,G.Ok p)(hn:I.Nodup)(hw:Dm G F I<2 ^ i):B4 G I (I++Dn G I ((gN i).filter (Dm G F I).testBit)):=by
 have hm:∀p,p∈Dn G I ((gN i).filter (Dm G F I).testBit)<->(Dm G F I).testBit (G.ZE p.1)=pH/\p.2=0/\p.1<R G.ZF/\p∉I:=λp=>by
  refine AU l9 ?_
  constructor
  .rintro ⟨sC,hY,hp⟩
   exact D9 ((EU ho).mp hp) λh1 h2 h3 h4=>(AV (h3▸(iH.mp hY).2) h1 h2 h4)
  .rintro ⟨h0,h1,h2,h4⟩
   refine(ti (G.ZE p.1) (iH.mpr ⟨iM.mpr ?_,h0⟩) ((EU ho).mpr (AV h1 h2 H h4)))
   rcases iZ (G.ZE p.1) i with q | q
   .exact q
   .rw[Nat.testBit_lt_two_pow (ij hw (lA (by decide) q))]at h0;exact ft h0
 refine⟨iP.mpr (uS hn (S8 ho (List.nodup_range.filter _)) (λa ha b hb e=>((hm b).mp hb).2.2.2 (e▸ha))),λp hp=>?_,λp=>?_⟩
 .rcases gP.mp hp with hp | hp
  .exact ho p hp
  .exact D9 ((hm p).mp hp) λø h1 h2 ø=>⟨h2,by exact D h1 (gE _)⟩
 .refine AU gP (AU (hm _) ?_)
  by_cases hp:p∈I
  .exact⟨λø=>.inl hp,λø=>.inl hp⟩
  .constructor
   .rintro (h | ⟨h0,h1,h2,_⟩)
    .exact .inl h
    ·(refine s9 ((H3 hS hl ho).mp h0) λq hq r9=>s9 r9 λX e1 e2=>?_)
     exact .inr (uS h1 h2 (vA q hq X e1 e2))
   .rintro (h | ⟨h1,h2,q,hq,X,e1,e2⟩)
    .exact .inl h
    .exact .inr (AV ((H3 hS hl ho).mpr (vA q hq X e1 e2)) h1 h2 hp)
theorem B4.perm(h:B4 G I rC)(p:J'.Perm rC):B4 G I J':=⟨p.nodup_iff.mpr h.nd,λq hq=>h.ok q (p.mem_iff.mp hq),λq=>p.mem_iff.trans (h.iff q)⟩
noncomputable def Y4.ZA(a c:sE)(t:V M)(z:Zg):uZ:=[J (Y a),J (f2 (nL t)),J (Y c),z.x0,z.a5,z.bM]
theorem Bi(h:GX s g G x){dt:M}(hr:r<R G.ZF):Op (ug [Y g,f0 r,f0 dt]) s (f0 (G.it (r,dt):M)):=VE h hr
theorem S9(h:GX E g G x)(hS:G.Sm)(hc:CX E a g d l G F)(ho:∀p∈I,G.Ok p)(hn:I.Nodup)(k:∀n,Dm G F I<2 ^ n->RL E K (nL (um ((Dn G I ((gN n).filter (Dm G F I).testBit)).map G.it)))):zv [Y a,f2 (nL (I.map G.it))] E K:=by
 refine Gz (dC (sX.init E) λc2 s O=>?_)
 have hw8:Dm G F I<2 ^ 8:=Nat.lt_pow_two_of_testBit _ λi hi=>by
  cases e:(Dm G F I).testBit i with
  | false=>rfl
  | true=>have:=N6 hS hc.lc ho e;have:=hS.n;lia
 refine dE (cX (cO (cC (rK (Z H) (cK ((hc.Zz O.le).ar)) (cE (Z H) cF) (QL (h.Zz O.le) hS (hc.Zz O.le) ho) _ (cH (VF hw8 (by decide) λn đ=>RL.ZC O λcb s O=>?_))))));generalize ŭ:(gN n).filter (Dm G F I).testBit=bs at O;have ZQ:=QN hS hc.lc ho hn đ;rw[ŭ]at ZQ;have hlen:R (I++Dn G I bs)<=20:=vQ hS ZQ.nd ZQ.ok;rw[gK]at hlen;refine yR (loc:=Y4.ZA a c2 (I.map G.it)) (z0:=XU) (λi z s=>sX E s [(cb,f1 (nL bs)),(c2,f1 (nL ((Dn G I (bs.take i)).map G.it)))]) (λi z s O=>O.Zu 0 H) O (λi v z s K' hv O hK=>?_) λz s O=>?_
 .refine Bt v (wa hv) λsC hY=>?_
  have Z1:R (Dn G I (bs.take i))<=R (Dn G I bs):=by
   conv=>rhs;rw[<- kR i bs]
   unfold Dn;rw[oZ,gK];exact jR ..
  refine dE (cX ((show Ev (L.Zx 306 0 (U 0)) _ s (Y g) by exact rH (Z H) (rT ((hc.Zz O.le).ar) H)) _ ⟨cK (O.le _ _ h.hg),cC (cG H (BR (h.Zz O.le) hS ((λsC hY=>N6 hS hc.lc ho (iH.mp (ŭ▸hY)).2:∀sC∈bs,sC<R G.ZH) sC (gz hY)) (RL.ZC O λcr s O=>?_)))⟩));refine yR (loc:=Y4.ZA a c2 (I.map G.it)) (z0:={z with x0:=J (f0 sC)}) (λj z s=>sX E s [(cr,f1 (nL (G.ZL sC))),(cb,f1 (nL bs)),(c2,f1 (nL ((Dn G I (bs.take i)++IF G I ((G.ZL sC).take j)).map G.it)))]) (λi z s O=>O.Zu 0 H) (by rw[show IF G I (List.take 0 (G.ZL sC))=[] from H,gY];exact O) (λj v z s K1 hv O ZW=>?_) λz s O=>?_
  .refine Bt v (wa hv) λr hr=>xA (vK.mp (gz hr)) λsK Z2=>cI (rK (rH (Z H) (rT ((hc.Zz O.le).ar) H)) (cK (O.le _ _ h.hg)) (cE (Z H) (cE rD cF)) (Bi (dt:=0) (h.Zz O.le) sK)) (sP (cL (rL (Z H) (Z H) fZ) (λq=>?_) λq=>?_))
   .have e:=Ja (G:=G) (I:=I) hr;rw[sH (by simpa using q)]at e;refine cU O 2 H (Z H) (Z H) (by rw[sU,gy,gK];exact Dp [20,5,16777215] 0x104a4004810942039020004e600404 H hlen Z1 (QM hS I sC j)) λs O=>ZW .next _ _ (ti ({z with a5:=J (f0 r),bM:=J (f0 (G.it (r,0):M))}) H ?_)
    rw[e,<- gW,gF,<- yd];exact O
   .have e:=Ja (G:=G) (I:=I) hr;rw[sI (by simpa using (by simpa using q):G.it (r,0)∈I.map G.it),gY]at e;refine ZW .next _ _ (ti ({z with a5:=J (f0 r),bM:=J (f0 (G.it (r,0):M))}) H ?_);rw[e];exact O
  .rw[sU,ic]at O;exact hK .next _ _ (ti z H (by rw[Pj hY];exact O.tail))
 .rw[sU,ic]at O;refine cJ (cZ (cC (cG H (cH (yq (ns:=(Dn G I bs).map G.it) (.inl (.inr (ti _ H (O.Zu 1 H)))) (by rw[gy];exact tD [20,64] 0x1090250048500402 H hlen) (RL.ZC O λc s O=>?_))))));rw[<- ŭ]at O;exact k n đ c s O.le (O.fr 0 H) (O.Zu 0 H)
theorem Ta(h:GX E g G x)(hS:G.Sm)(hc:CX E a g d nu G F)(ho:∀p∈I,G.Ok p)(hn:I.Nodup)(k:∀rC,B4 G I rC->RL E K (nL (rC.map G.it))):zx [Y a,f2 (nL (I.map G.it))] E K:=by
 refine GB (dB (cO (cC (cG H (cH (yq (ns:=I.map G.it) (.inl (.inl H)) (D (gy _) (tY [20,64] 0x4240940120402 H (vQ hS hn ho))) (RL.ZC (sX.init E) λc1 s O=>(cG H ⟨cK ((hc.Zz O.le).ar),(cG H (S9 (h.Zz O.le) hS (hc.Zz O.le) ho hn λn hw=>RL.ZC O λc2 s O=>?_))⟩))))))));have ZQ:=QN hS hc.lc ho hn hw;generalize Dn G I ((gN n).filter (Dm G F I).testBit)=ad at ZQ O;have hlen:R (I++ad)<=20:=vQ hS ZQ.nd ZQ.ok;rw[gK]at hlen;refine(tq _ _ _ H (O.Zu 1 H) (O.Zu 0 H) (D (sU _) (D (sU _) (D (D ((tE _).length_eq) (D (gy _) H):R (um (I.map G.it))=R I) (D (D ((tE _).length_eq) (D (gy _) H):R (um (ad.map G.it))=R ad) (D sS (tD [20,16777216] 0x42520024004a400402 H hlen)))))) (λc hc=>(s9 (BQ (f:=G.it) (I:=I++ad) (l:=um (I.map G.it)++um (ad.map G.it)) (D gF ((tE _).append (tE _)))) λrC hJ e=>?_)));have O:=O.new (o:=f1 (nL (um (I.map G.it))++nL (um (ad.map G.it)))) hc;rw[yd,<- e]at O;exact D (yd _ _) (tj e (k rC (ZQ.perm hJ) c _ O.le (O.fr 0 H) (O.Zu 0 H)))
noncomputable def RO(st:LH)(K:LV->LH->Prop)(o:LO):Prop:=∀c E,Le st E->st c=sD->E c=J o->K (Y c) E
theorem RO.ZC{l:V (sE×LO)}(O:sX E s l)(k:∀c s',sX E s' ((c,o)::l)->K (Y c) s'):RO s K o:=λc s' le hc ho=>k c s' (O.ret le hc ho)
noncomputable def dI{α:Type}(key:α->M)(val:α->LV)(xs:V α):V (LV×LV):=xs.map λq=>(f0 (key q:M),val q)
theorem BS{α:Type}{key:α->M}{val:α->LV}{xs:V α}:wu (dI key val xs)=pH:=by
 unfold wu dI;exact D nW (i9.mpr λø ø=>rfl)
theorem J9{α:Type}{key:α->M}{val:α->LV}{xs:V α}(hn:(xs.map key).Nodup){q:α}(hq:q∈xs):v5 (dI key val xs) (f0 (key q:M))=J (val q):=by
 unfold v5 dI
 induction xs with
 | nil=>cases hq
 | cons a l ih=>
  refine xA (iK.mp hn) λh1 h2=>D iN ?_
  by_cases e:key a=key q
  .rcases gX.mp hq with rfl | hq
   .refine D (kC (by simp)) ?_;rfl
   .exact absurd (gL.mpr (ti q hq e.symm)) h1
  .refine D (jN (by simpa using λh=>e (by exact_mod_cast h))) ?_;exact ih h2 ((gX.mp hq).resolve_left λh=>e (h▸rfl))
theorem Ka{α:Type}{key:α->M}{val:α->LV}{xs:V α}(h:X∉xs.map key):v5 (dI key val xs) (f0 (X:M))=sD:=by
 unfold v5 dI
 induction xs with
 | nil=>rfl
 | cons a l ih=>
  rw[iN]at h ⊢;refine D (jN (by simpa using λq=>h (gX.mpr (.inl (by exact_mod_cast q.symm))))) ?_;exact ih λq=>h (gH _ q)
theorem QO{α:Type}{key:α->M}{val:α->LV}{xs:V α}(hn:(xs.map key).Nodup):B6 (dI key val xs) (f0 (X:M))=b8 (X∈xs.map key):=by
 unfold B6
 by_cases h:X∈xs.map key
 .refine s9 (gL.mp h) λq hq e=>?_
  subst e;exact D (J9 hn hq) (D (sM h) H)
 .exact D (Ka h) (D (sT h) H)
theorem VM{α:Type}{key:α->M}{val:α->LV}{xs:V α}(h:X∉xs.map key):Cp (dI key val xs) (f0 (X:M)) v=dI key val xs++[(f0 (X:M),v)]:=by
 unfold Cp B6;exact D (Ka h) H
theorem QP{α:Type}{key:α->M}{val:α->LV}{xs:V α}:R (dI key val xs)=R xs:=gy ..
theorem eT{α:Type}{key:α->M}{val:α->LV}{xs:V α}(hl:s l=J (f8 (dI key val xs)))(hn:(xs.map key).Nodup):Op (ql pH (f0 (X:M)) (Y l)) s (ii (!b8 (X∈xs.map key))):=λK k=>by
 unfold ql;simp only[hl];refine⟨BS,?_⟩;refine D (QO hn) ?_;simpa using k
theorem d4{α:Type}{key:α->M}{val:α->LV}{xs:V α}(hl:s l=J (f8 (dI key val xs)))(hn:(xs.map key).Nodup){q:α}(hq:q∈xs):Op (qi (Y l) (f0 (key q:M))) s (val q):=Op.ŏ hl BS (J9 hn hq)
theorem Kc{α:Type}{key:α->M}{val:α->LV}{xs:V α}(hl:s l=J (f8 (dI key val xs))):L.ī s (Y l) (nL (xs.map key)):=
 .inr (uY _ _ H hl BS (by unfold dI nL;exact D iS (D iS H)))
theorem Bj{α:Type}{key:α->M}{val:α->LV}{xs:V α}(hl:s l=J (f8 (dI key val xs)))(hz:R xs<=10000000){y:LV}(h:X∉xs.map key):qA s (Y l) (f0 (X:M)) y=J (ur s l (f8 (dI key val xs++[(f0 (X:M),y)]))):=
 D (SM hl BS (D QP (D sS (tY [10000000,16777216] 0x4240900120402 H hz)))) (D (VM h) H)
noncomputable def EV(G:Gm)(rC:V (M×M)):V M:=(rC.filter λp=>(G.Zv p.1)[p.2]?=sD/\p.1≠0).map (·.1)
noncomputable def vZ(G:Gm)(X:M)(rC:V (M×M)):V (M×M):=(rC.filter λp=>(G.Zv p.1)[p.2]?=J X).map λp=>(p.1,p.2+1)
theorem Bk:p∈vZ G X rC<->∃d,p.2=d+1/\(p.1,d)∈rC/\(G.Zv p.1)[d]?=J X:=by
 refine AU gL ?_
 constructor
 .rintro ⟨q,hq,rfl⟩
  exact xA (iH.mp hq) λh1 h2=>(tC q.2 H h1 (sQ h2))
 .rintro ⟨d,e,h1,h2⟩
  exact(ti (p.1,d) (iH.mpr ⟨h1,sM h2⟩) (ji H e.symm))
theorem EW(ho:∀p∈rC,G.Ok p)(hp:p∈vZ G X rC):G.Ok p:=
 tW (Bk.mp hp) λd e h1 h2=>⟨(ho _ h1).ao,by exact D e ((gB.mp h2).1)⟩
theorem N7(hn:rC.Nodup):(vZ G X rC).Nodup:=by
 refine jV.mpr ((hn.filter _).imp λ{a b} h (e:(a.1,a.2+1)=(b.1,b.2+1))=>h ?_);cases a;cases b;cases e;rfl
theorem Pk(ho:∀p∈rC,G.Ok p):r∈EV G rC<->r≠0/\(r,R (G.Zv r))∈rC:=by
 refine AU gL ?_
 constructor
 .rintro ⟨p,hp,rfl⟩
  exact xA (iH.mp hp) λh1 h2=>xA (sQ h2) λh3 h4=>⟨h4,by exact tj (gZ (ho p h1).au (jg.mp h3):p.2=R (G.Zv p.1)) h1⟩
 .rintro ⟨h0,h1⟩
  exact(ti _ (iH.mpr ⟨h1,sM ⟨iz (gC _),h0⟩⟩) H)
theorem QR(ho:∀p∈rC,G.Ok p)(hn:rC.Nodup):(EV G rC).Nodup:=by
 have key:∀p∈rC.filter (λp=>(G.Zv p.1)[p.2]?=sD/\p.1≠0),p.2=R (G.Zv p.1):=λp hp=>by
  exact xA (iH.mp hp) λh1 h2=>gZ (ho p h1).au (jg.mp (sQ h2).1)
 exact jV.mpr ((hn.filter _).imp_of_mem λ{a b} ha hb Z0 e=>Z0 (ji e (D (key a ha) (D (key b hb) (D e H)))))
noncomputable def Zn.ZA(A:Ag)(z:Zg):uZ:=[J (Y A.ae),J (Y A.az),J (Y A.aE),z.x0]
theorem Na:R (nL (rC.map G.it))=R rC:=D (sU _) (D (gy _) H)
theorem FY(h:GX E g G x)(hS:G.Sm)(ho:∀p∈rC,G.Ok p)(hn:rC.Nodup)(hl:E l=J (f1 (nL (rC.map G.it))))(k:∀rs:V M,R rs<=20->rs.Nodup->(∀r,r∈rs<->r≠0/\(r,R (G.Zv r))∈rC)->RL E K (nL rs)):xG [Y g,Y l] E K:=by
 refine Er (dC (sX.init E) λc s O=>?_)
 have p!:∀i,R (EV G (rC.take i))<=20:=λi=>by
  exact D (gy _) (gA (jb ..) (gA (jW ..) (vQ hS hn ho)))
 refine dq (loc:=Zn.ZA ⟨g,l,c,0,0,0,[],[]⟩) (z0:=XU) (λi z s=>sX E s [(c,f1 (nL (EV G (rC.take i))))]) (Z H) (λi z s O=>O.le _ _ hl) O (λi v z s K' hv O hK=>?_) λz s O=>sP ?_
 .refine Bt v (LN hv) λp hp=>?_
  have lm:=ho p (gz hp);have hx:=h.Zz O.le
  have e:EV G (rC.take (i+1))=EV G (rC.take i)++if (G.Zv p.1)[p.2]?=sD/\p.1≠0 then [p.1] else []:=by
   unfold EV;refine D (tF hp) (D (jS _ _) (D gF ?_))
   congr 1
   by_cases q:(G.Zv p.1)[p.2]?=sD/\p.1≠0
   .exact D (sI q) (D (l7 (by simpa using q)) H)
   .exact D (sH q) (D (l6 (by simpa using q)) H)
  refine cL (t:=b8 (G.M2 p<0)&&!b8 ((p.1:al)=0)) (rO (rL (rK (Z H) (cK hx.hg) (cE (Z H) cF) (C7 hx lm)) rD rX) λø=>rQ (rL (rK (Z H) (cK hx.hg) (cE (Z H) cF) (xY hx lm)) rD r4)) (λq=>?_) λq=>?_
  .refine xA (iL.mp q) λq1 q2=>?_
   have q1:(G.Zv p.1)[p.2]?=sD:=by
    cases hX:(G.Zv p.1)[p.2]? with
    | none=>rfl
    | some X=>rw[CU hX]at q1;exact absurd (sQ q1) (jy.mpr (ig X))
   rw[sI ⟨q1,by simpa using q2⟩]at e;refine cU O 0 H (Z H) (rK (Z H) (cK hx.hg) (cE (Z H) cF) (xY hx lm)) (D (sU _) (gA (p! i) (by decide))) λs O=>?_
   rw[wQ]at O;exact hK .next _ _ (ti ({z with x0:=J (f0 (G.it p:M))}) H (D e O))
  .rw[sH (λh=>by rw[CV h.1]at q;simp[h.2]at q),gY]at e;exact hK .next _ _ (ti ({z with x0:=J (f0 (G.it p:M))}) H (D e O))
 .have O:sX E s [(c,f1 (nL (EV G (rC.take (R (nL (rC.map G.it)))))))]:=O;rw[Na,ic]at O;have hlen:=p! (R rC);rw[ic]at hlen;exact cZ (cO (cC (cG H (cH (yq (ns:=EV G rC) (.inl (.inr (ti _ H (O.Zu 0 H)))) (tY [20,64] 0x4240940120402 H hlen) (RL.ZC O λc s O=>(k _ (by exact D ((tE _).length_eq) hlen) ((tE _).nodup_iff.mpr (QR ho hn)) (λr=>(tE _).mem_iff.trans (Pk ho)) c s O.le (O.fr 0 H) (O.Zu 0 H))))))))
theorem H4(h:GX s g G x)(hp:G.Ok p):Op (BB [Y g,f0 (G.it p:M)]) s (f0 (G.it (p.1,p.2+1):M)):=λKE k=>by
 refine Lb (cP (rK (Z H) (cK h.hg) (cE (rK (Z H) (cK h.hg) (cE (Z H) cF) (xY h hp)) (cE (rE (rK (Z H) (cK h.hg) (cE (Z H) cF) (CQ h hp)) rD rU) cF)) (Bi (dt:=p.2+1) h hp.ao)) k)
noncomputable def Jb(G:Gm)(kz:V (M×sE))(cont:M->V (M×M)):V (sE×LO):=kz.map λq=>(q.2,f1 (nL ((cont q.1).map G.it)))
noncomputable def UW(kz:V (M×sE)):V (LV×LV):=dI gS (λq=>Y q.2) kz
theorem Pl{kz:V (M×sE)}{cont cont':M->V (M×M)}(hj:kz[j]?=J (X,a))(hn:(kz.map gS).Nodup)(h:∀sC,sC≠X->cont' sC=cont sC):(Jb G kz cont).set j (a,f1 (nL ((cont' X).map G.it)))=Jb G kz cont':=by
 apply jj;intro i;refine D (jx) (D (gG) (D (gG) (D (gy _) ?_)))
 by_cases e:j=i
 .subst e;refine D (sI H) (D (sI (gB.mp hj).1) (D hj ?_));rfl
 .refine D (sH e) ?_;cases hi:kz[i]? with
  | none=>rfl
  | some q=>
   refine(?_:J (q.2,f1 (nL ((cont q.1).map G.it)))=J (q.2,f1 (nL ((cont' q.1).map G.it))));exact D (h q.1 (λhe=>e ((jq (D (gy _) ((gB.mp hj).1)) hn).mp (by refine D (gG) (D (gG) (D hj (D hi ?_)));exact sJ J he.symm)):q.1≠X)) H
theorem Bl(hp:rC[i]?=J p):vZ G sC (rC.take (i+1))=vZ G sC (rC.take i)++if (G.Zv p.1)[p.2]?=J sC then [(p.1,p.2+1)] else []:=by
 unfold vZ;refine D (tF hp) (D (jS _ _) (D gF ?_))
 congr 1
 by_cases q:(G.Zv p.1)[p.2]?=J sC
 .exact D (sI q) (D (l7 (by simpa using q)) H)
 .exact D (sH q) (D (l6 (by simpa using q)) H)
noncomputable def Nb.ZA(A:Ag)(z:Zg×V (M×sE)):uZ:=[J (Y A.ae),J (Y A.az),J (Y A.aE),z.1.x0,z.1.a5,sD]
noncomputable def Nb.ZC(G:Gm)(A:Ag)(kz:V (M×sE))(rC:V (M×M)):V (sE×LO):=(A.aE,f8 (UW kz))::Jb G kz λX=>vZ G X rC
noncomputable abbrev QS(G:Gm)(A:Ag)(st:LH)(rC:V (M×M))(i:M)(z:Zg×V (M×sE))(s:LH):Prop:=sX st s (Nb.ZC G A z.2 (rC.take i))/\(z.2.map gS).Nodup/\∀X,X∈z.2.map gS<->∃p∈rC.take i,(G.Zv p.1)[p.2]?=J X
def QS.ZC{z:Zg×V (M×sE)}(h:QS G gk E rC i z s):=h.1
def QS.nd{z:Zg×V (M×sE)}(h:QS G gk E rC i z s):=h.2.1
def QS.iff{z:Zg×V (M×sE)}(h:QS G gk E rC i z s):=h.2.2
theorem vR{α:Type}{l:V α}{p q:α}(hp:l[i]?=J p):q∈l.take (i+1)<->q∈l.take i\/q=p:=by
 rw[tF hp,gP,gJ]
theorem QT(h:GX E gk.ae G x)(hJ:R rC<=20)(hp:rC[i]?=J p)(lm:G.Ok p)(hX:(G.Zv p.1)[p.2]?=J X){kz:V (M×sE)}(O:sX E s (Nb.ZC G gk kz (rC.take i)))(hn:(kz.map gS).Nodup)(hm:X∈kz.map gS)(hi:∀sC,sC∈kz.map gS<->(∃p∈rC.take i,(G.Zv p.1)[p.2]?=J sC)\/sC=X)
  (AT:z.x0=J (f0 (G.it p:M))) (hx1:z.a5=J (f0 X))
  (hK:∀fl em s',ue (zI (Nb.ZA gk) (QS G gk E rC (i+1))) TW fl em s'->K' fl em s'):xd (Nb.ZA gk (z,kz)) s (A3 qm K'):=by
 refine s9 (gL.mp hm) λq hq e=>xE (ie hq) λj hj=>?_
 subst (e:q.1=X)
 have Ħ:(Nb.ZC G gk kz (rC.take i))[j+1]?=J (q.2,f1 (nL ((vZ G q.1 (rC.take i)).map G.it))):=by
  refine D (gG) (D hj ?_);rfl
 have hlen:R ((vZ G q.1 (rC.take i)).map G.it)<=20:=by
  exact D (gy _) (D (gy _) (gA (jb ..) (gA (jW ..) hJ)))
 refine cU O (j+1) Ħ (rE (Z H) (Z (sJ J hx1)) (d4 (O.Zu 0 H:s gk.aE=J (f8 (UW kz))) hn hq)) (rI (cE (Z H) (cE (Z (sJ J AT)) cF)) (H4 (h.Zz O.le) lm)) (D (sU _) (gA hlen (by decide))) λs O=>hK .next _ _ ⟨(z,kz),H,?_,hn,λsC=>(hi sC).trans ⟨λo=>?_,λZN=>s9 ZN λq hq hY=>?_⟩⟩
 .have e1:nL ((vZ G q.1 (rC.take i)).map G.it)++[f0 (G.it (p.1,p.2+1):M)]=nL ((vZ G q.1 (rC.take (i+1))).map G.it):=by
   (refine D (Bl hp) (D (sI hX) (D gF ?_));rewrite[<- yd]);rfl
  rw[e1]at O
  have e2:=Pl (G:=G) (cont:=λX=>vZ G X (rC.take i)) (cont':=λX=>vZ G X (rC.take (i+1))) hj hn λsC ne=>by
   exact D (Bl hp) (D (sH λq=>ne (gv (q.symm.trans hX))) (D (gY _) H))
  unfold Nb.ZC;exact tj e2 O
 .rcases o with ⟨q,hq,hY⟩ | rfl
  .exact(ti q ((vR hp).mpr (.inl hq)) hY)
  .exact⟨p,(vR hp).mpr (.inr H),hX⟩
 .rcases (vR hp).mp hq with hq | rfl
  .exact .inl (ti q hq hY)
  .exact .inr (gv (hY.symm.trans hX))
theorem Tb{z:Zg×V (M×sE)}(h:GX E gk.ae G x)(hJ:R rC<=20)(ho:∀p∈rC,G.Ok p)(hv:(nL (rC.map G.it))[i]?=J v)(I:QS G gk E rC i z s)
  (hK:∀fl em s',ue (zI (Nb.ZA gk) (QS G gk E rC (i+1))) TW fl em s'->K' fl em s'):yW ((Nb.ZA gk z).set 3 (J v)) s K':=by
 refine s9 (LN hv) λp hp ñ=>?_;refine D ñ ?_
 have lm:=ho p (gz hp);refine cI (rK (Z H) (cK (h.Zz I.ZC.le).hg) (cE (Z H) cF) (C7 (h.Zz I.ZC.le) lm)) (sP ?_);cases hX:(G.Zv p.1)[p.2]? with
 | none=>
  refine D (CV hX) (cL (t:=Zt) (rL (Z H) rD rY) (λq=>ft q) λø=>sP (hK .next _ _ ⟨({z.1 with x0:=J (f0 (G.it p:M)),a5:=J (f0 (-1))},z.2),H,?_,I.nd,λX=>(I.iff X).trans ⟨λZN=>s9 ZN λq hq e=>⟨q,(vR hp).mpr (.inl hq),e⟩,λZN=>s9 ZN λq hq e=>?_⟩⟩))
  .have e:Nb.ZC G gk z.2 (rC.take (i+1))=Nb.ZC G gk z.2 (rC.take i):=by
    unfold Nb.ZC
    congr 2;funext X
    exact D (Bl hp) (D (sH (by refine D hX ?_;intro q;exact uH q)) (D (gY _) H))
   exact D e I.ZC
  .rcases (vR hp).mp hq with hq | rfl
   .exact(ti q hq e)
   .exact uH (hX.symm.trans e)
 | some X=>
  refine D (CU hX) (cL (t:=pH) (tj (sM (ig X)) (rL (Z H) rD rY)) (λø=>?_) λq=>tf q);refine cL (rL (Z H) (Z H) (eT (I.ZC.Zu 0 H:s gk.aE=J (f8 (UW z.2))) I.nd)) (λq=>?_) λq=>sP ?_
  .have q:X∉z.2.map gS:=by simpa using q
   have hlen:R z.2<=20:=by
    have Z1:=tP (m:=((rC.take i).filterMap λp=>(G.Zv p.1)[p.2]?)) I.nd λsC hY=>by
     exact s9 ((I.iff sC).mp hY) λp hp e=>o3.mpr (ti p hp e)
    rw[gy]at Z1;exact gA Z1 (gA (o4 ..) (gA (jW ..) hJ))
   refine⟨by decide,λa ha=>Z (v:=Y gk.aE) H _ (Z (v:=f0 (X:M)) H _ ?_)⟩;refine(ti _ (Bj (key:=gS) (val:=λq:M×sE=>Y q.2) (xs:=z.2) ((I.ZC.new (o:=f1 []) ha).Zu 1 H) (gA hlen (by decide)) q) (sP (QT (z:={z.1 with x0:=J (f0 (G.it p:M)),a5:=J (f0 X)}) (kz:=z.2++[(X,a)]) h hJ hp lm hX ?_ ?_ ?_ (λsC=>?_) H rfl hK)))
   .have e:vZ G X (rC.take i)=[]:=by
     cases hh:vZ G X (rC.take i) with
     | nil=>rfl
     | cons b l=>
      exact tW (Bk.mp (hh▸gI:b∈vZ G X (rC.take i))) λd e1 e2 e3=>absurd ((I.iff X).mpr (ti _ e2 e3)) q
    have e1:Nb.ZC G gk (z.2++[(X,a)]) (rC.take i)=(gk.aE,f8 (UW z.2++[(f0 (X:M),Y a)]))::(Jb G z.2 (λX=>vZ G X (rC.take i))++[(a,f1 [])]):=by
     unfold Nb.ZC UW Jb dI;refine D gF (D gF (D jc (D jc ?_)));dsimp only;exact D e H
    exact D e1 (((I.ZC.new (o:=f1 []) ha).set 1 H (f8 (UW z.2++[(f0 (X:M),Y a)]))).perm ((l8 ..).trans (md _ ((km _ _).symm))))
   .exact D gF (iP.mpr (uS I.nd (u5 _) (λb hb c hc e=>q (by rw[jc,gJ]at hc;have e:b=X:=e.trans hc;exact e▸hb))))
   .exact D gF (gU _ (iE _))
   .rw[gF,gP,I.iff,jc,gJ]
  .have q:X∈z.2.map gS:=by simpa using q
   exact QT (z:={z.1 with x0:=J (f0 (G.it p:M)),a5:=J (f0 X)}) (kz:=z.2) h hJ hp lm hX I.ZC I.nd q (λsC=>(I.iff sC).trans ⟨.inl,λo=>o.elim id λe=>(I.iff sC).mp (e▸q)⟩) H rfl hK
noncomputable def PI(G:Gm)(rC:V (M×M))(xs:V M):V (LV×LV):=dI id (λX=>f2 (nL (um ((vZ G X rC).map G.it)))) xs
theorem FZ(h:GX E g G x)(hS:G.Sm)(ho:∀p∈rC,G.Ok p)(hn:rC.Nodup)(hl:E l=J (f1 (nL (rC.map G.it))))(k:∀xs:V M,xs.Nodup->(∀X,X∈xs<->∃p∈rC,(G.Zv p.1)[p.2]?=J X)->RO E K (f8 (PI G rC xs))):xJ [Y g,Y l] E K:=by
 have hJ:=vQ hS hn ho;refine Et (eu (sX.init E) λc s O=>(dq (loc:=Nb.ZA ⟨g,l,c,0,0,0,[],[]⟩) (z0:=(XU,[])) (QS G ⟨g,l,c,0,0,0,[],[]⟩ E rC) (Z H) (λi z s I=>I.ZC.le _ _ hl) ⟨O,iU,λX=>⟨λh=>(by cases h),λZN=>s9 ZN λp h ø=>(by cases h)⟩⟩ (λi v z s K' hv I hK=>Tb h hJ ho hv I hK) λz s (I:QS G _ E rC (R (nL (rC.map G.it))) z s)=>sP ?_));refine zY I λO nd iff=>?_
 rw[Na,ic]at O;rw[Na,ic]at iff;refine eu O λc5 s O=>?_
 have hlen:R z.2<=20:=by
  have Z1:=tP (m:=(rC.filterMap λp=>(G.Zv p.1)[p.2]?)) nd λsC hY=>by
   refine s9 ((iff sC).mp hY) λp hp e=>?_
   exact o3.mpr (ti p hp e)
  rw[gy]at Z1;exact gA Z1 (gA (o4 ..) hJ)
 refine(cX (cO (cC (cG H (cH (yq (Kc (O.Zu 1 H):L.ī s (Y c) (nL (z.2.map gS))) (D (gy _) (tY [20,64] 0x4240940120402 H hlen)) (RL.ZC O λc3 s O=>?_)))))));have hp:=tE (z.2.map gS);have N!:=hp.nodup_iff.mpr nd;refine yR (loc:=λ(x:sF LV)=>[J (Y g),J (Y l),J (Y c),z.1.x0,x,J (Y c5)]) (z0:=z.1.a5) (λi ø s=>sX E s ((c3,f1 (nL (um (z.2.map gS))))::(c5,f8 (PI G rC ((um (z.2.map gS)).take i)))::(c,f8 (UW z.2))::Jb G z.2 λX=>vZ G X rC)) (λi z s O=>O.Zu 0 H) O (λi v y s K' hv O hK=>?_) λy s O=>sP ?_
 ·(refine s9 (wa hv) λX hX e9=>?_;refine D e9 ?_)
  (refine s9 (gL.mp (hp.mem_iff.mp (gz hX):X∈z.2.map gS)) λq hq e9=>?_;subst e9)
  obtain ⟨j,hj⟩:=ie hq
  have D!:R ((vZ G q.1 rC).map G.it)<=20:=by
   exact D (gy _) (D (gy _) (gA (jb ..) hJ))
  refine cO (cC (cO (cC ((rE (Z H) (Z H) (d4 (O.Zu 2 H:s c=J (f8 (UW z.2))) nd hq):Ev (pI qi (U 2) (U 4)) [J (Y g),J (Y l),J (Y c),z.1.x0,J (f0 (q.1:M)),J (Y c5)] s (Y q.2)) _ (cH (yq (ns:=(vZ G q.1 rC).map G.it) (.inl (.inr (ti _ H (O.Zu (j+3) (c:=q.2) (o:=f1 (nL ((vZ G q.1 rC).map G.it))) (by
   refine D (gG) (D hj ?_);rfl))))) (tY [20,64] 0x4240940120402 H D!) (RL.ZC O λc6 s O=>(cH ?_))))))))
  refine(tU _ _ H (.inr (tC _ H (O.Zu 0 H:s c6=J (f1 (nL (um ((vZ G q.1 rC).map G.it))))) (D (sU _) (D ((tE _).length_eq) (D sS (tY [20,16777216] 0x4240900120402 H D!)))))) (Z (v:=Y c5) H _ (Z (v:=f0 (q.1:M)) H _ ?_)));have UF:q.1∉((um (z.2.map gS)).take i).map id:=by rw[jL];exact yp hX N!
  refine(ti _ (Bj (key:=id) (val:=λX=>f2 (nL (um ((vZ G X rC).map G.it)))) (O.Zu 2 H) (gA (jW ..) (gA (D hp.length_eq (D (gy _) hlen):R (um (z.2.map gS))<=20) (by decide))) UF) (hK .next _ _ (ti (J (f0 (q.1:M))) H ?_)));have O:=(O.set 2 H (f8 (PI G rC ((um (z.2.map gS)).take i)++[(f0 (q.1:M),f2 (nL (um ((vZ G q.1 rC).map G.it))))]))).tail
  have e:PI G rC ((um (z.2.map gS)).take (i+1))=PI G rC ((um (z.2.map gS)).take i)++[(f0 (q.1:M),f2 (nL (um ((vZ G q.1 rC).map G.it))))]:=by
   rw[tF hX];unfold PI dI;rw[gF];rfl
  exact D e O
 .rw[sU,ic]at O;exact cP (Z H) (k _ N! (λX=>hp.mem_iff.trans (iff X)) c5 s O.le (O.fr 1 H) (O.Zu 1 H))
theorem Jc{α:Type}:∀{l:V α} {i:M} {x:α},l.Nodup->x∉l->(l.set i x).Nodup
 | [],_,_,h,_=>h
 | a::l,0,x,h,hx=>iK.mpr ⟨λm=>hx (gH _ m),(iK.mp h).2⟩
 | a::l,i+1,x,h,hx=>iK.mpr ⟨λm=>(lH m).elim (iK.mp h).1 λe=>hx (e▸gI),Jc (iK.mp h).2 λm=>hx (gH _ m)⟩
theorem sX.swap{p:sE×LO}(h:sX E s (p::pre))(i:M):sX E s (pre.set i p):=by
 refine⟨h.le,?_,λq hq=>?_⟩
 .exact D mP (Jc (iK.mp h.nd).2 (iK.mp h.nd).1)
 .rcases lH hq with hq | rfl
  .exact h.ZT q (gH _ hq)
  .exact h.ZT _ gI
structure SR where
 ae:sE
 au:sE
 ia:sE
 a6:sE
 aY:sE
 sym:LV
 aG:V (M×M)
 aJ:V (M×M)
 xs:V M
 aQ:M->M
 rs:V M
variable {S S' S0:V SR} {r' r0 rn:SR}
noncomputable def SR.aM(G:Gm)(q:M)(r:SR):LO:=f4 264 r.au [f0 q,f2 (nL (r.aG.map G.it)),r.sym,Y r.ia,Y r.a6,Y r.aY]
noncomputable def SR.ι(r:SR):V (LV×LV):=dI id (λX=>f0 (r.aQ X:M)) r.xs
noncomputable def SR.ZC(G:Gm)(q:M)(r:SR):V (sE×LO):=[(r.ae,r.aM G q),(r.ia,f1 (nL (r.aJ.map G.it))),(r.a6,f8 r.ι),(r.aY,f1 (nL r.rs))]
noncomputable def PJ{α β:Type}(f:M->α->V β):M->V α->V β
 | _,[]=>[]
 | q,r::S=>f q r++PJ f (q+1) S
theorem H5{α β:Type}{f:M->α->V β}{r:α}{S:V α}:PJ f i (r::S)=f i r++PJ f (i+1) S:=H
theorem VN{α β:Type}{f:M->α->V β}(hf:∀q r,R (f q r)=4){S:V α}{r':α}:∀{q b:M},S[q]?=J r'->k<4->(PJ f b S)[4*q+k]?=(f (b+q) r')[k]?:=by
 induction S with
 | nil=>exact λh ø=>z9 h
 | cons r S ih=>
  intro q b h hk;cases q with
  | zero=>
   refine D (gv h) ?_
   (rewrite[H5];refine D (hV (D (hf _ _) (tY [4,0] 0x1204200940120422 H hk))) (D (Nat.mul_zero _) (D (iB _) ?_)));rfl
  | succ q=>
   (rewrite[H5];refine D (il (D (hf _ _) (tD [4,1] 0x5084800080008481 H))) (D (hf _ _) (D (show 4*(q+1)+k - 4=4*q+k by exact gZ (uy [4,1] 0x18a01008121821280020002400442 H (gO (tD [4,1] 0x5084800080008481 H))) (uy [4,1] 0x10c50080121821280020002400462 H (gO (tD [4,1] 0x5084800080008481 H)))) (D (show b+(q+1)=(b+1)+q by exact gZ (tD [1] 0x1401200000940400481 H) (tD [1] 0x25010050048000481 H)) ?_))))
   exact ih h hk
theorem Tc{α β:Type}{f:M->α->V β}{S T:V α}:∀{b:M},PJ f b (S++T)=PJ f b S++PJ f (b+R S) T:=by
 induction S with
 | nil=>exact H
 | cons r S ih=>
  intro b
  (refine D mh ?_;rewrite[H5,H5];refine D ih ?_;rewrite[gW];exact D (show b+1+R S=b+R (r::S) by exact D iu (gZ (tD [1] 0x25010050048000481 H) (tD [1] 0x1401200000940400481 H))) H)
theorem N8{α β:Type}{f:M->α->V β}(hf:∀q r,R (f q r)=4){S:V α}:∀{b:M},R (PJ f b S)=4*R S:=by
 induction S with
 | nil=>exact H
 | cons r S ih=>
  intro b
  (rewrite[H5];refine D gK (D (hf _ _) (D ih (D iu ?_))));exact gZ (tY [4,1] 0x424000440080100481 H) (tY [4,1] 0x1002004010900010481 H)
noncomputable def UX(G:Gm):M->V SR->V (sE×LO):=PJ λq r=>r.ZC G q
theorem G4:R (r'.ZC G i)=4:=H
noncomputable def dT{α:Type}(key:α->V M)(val:α->LV)(xs:V α):V (LV×LV):=xs.map λq=>(f2 (nL (key q)),val q)
theorem QU(h:nL w=nL ts):w=ts:=by
 refine jj λi=>?_
 have e:=sJ (·[i]?) h;unfold nL at e;simp only[gG]at e;cases ha:w[i]?<;>cases hb:ts[i]?<;>rw[ha,hb]at e<;>simp at e
 exact sJ J (iQ e)
theorem EY(l:V M):(Dr (nL l)).isSome=pH:=by
 induction l with
 | nil=>rfl
 | cons x r ih=>exact(sF.isSome_map).trans ih
theorem G5{α:Type}{key:α->V M}{val:α->LV}{xs:V α}:vG (dT key val xs)=pH:=by
 unfold vG dT;exact D nW (i9.mpr λø ø=>rfl)
theorem Nc{α:Type}{key:α->V M}{val:α->LV}{xs:V α}(hn:(xs.map key).Nodup){q:α}(hq:q∈xs):v5 (dT key val xs) (f2 (nL (key q)))=J (val q):=by
 unfold v5 dT
 induction xs with
 | nil=>cases hq
 | cons a l ih=>
  refine xA (iK.mp hn) λh1 h2=>D iN ?_
  by_cases e:key a=key q
  .rcases gX.mp hq with rfl | hq
   .refine D (kC (by simp)) ?_;rfl
   .exact absurd (gL.mpr (ti q hq e.symm)) h1
  .refine D (jN (by simpa using λh=>e (QU h))) ?_;exact ih h2 ((gX.mp hq).resolve_left λh=>e (h▸rfl))
theorem N9{α:Type}{key:α->V M}{val:α->LV}{xs:V α}(h:w∉xs.map key):v5 (dT key val xs) (f2 (nL w))=sD:=by
 unfold v5 dT
 induction xs with
 | nil=>rfl
 | cons a l ih=>
  rw[iN]at h ⊢;refine D (jN (by simpa using λq=>h (gX.mpr (.inl (QU q).symm)))) ?_;exact ih λq=>h (gH _ q)
theorem VO{α:Type}{key:α->V M}{val:α->LV}{xs:V α}(hn:(xs.map key).Nodup):B6 (dT key val xs) (f2 (nL w))=b8 (w∈xs.map key):=by
 unfold B6
 by_cases h:w∈xs.map key
 .refine s9 (gL.mp h) λq hq e=>?_
  subst e;exact D (Nc hn hq) (D (sM h) H)
 .exact D (N9 h) (D (sT h) H)
theorem QV{α:Type}{key:α->V M}{val:α->LV}{xs:V α}:R (dT key val xs)=R xs:=gy ..
theorem eV{α:Type}{key:α->V M}{val:α->LV}{xs:V α}{X:V M}(hl:s l=J (f8 (dT key val xs)))(hn:(xs.map key).Nodup):Op (ql pH (f2 (nL X)) (Y l)) s (ii (!b8 (X∈xs.map key))):=λK k=>by
 unfold ql;simp only[hl];refine(uS G5 (EY X) (D (VO hn) ?_));simpa using k
theorem dO{α:Type}{key:α->V M}{val:α->LV}{xs:V α}(hl:s l=J (f8 (dT key val xs)))(hn:(xs.map key).Nodup){q:α}(hq:q∈xs):Op (qi (Y l) (f2 (nL (key q)))) s (val q):=Op.ĝ hl G5 (EY _) (Nc hn hq)
theorem xZ{α:Type}{key:α->V M}{val:α->LV}{xs:V α}{X:V M}(hl:s l=J (f8 (dT key val xs)))(hz:R xs<=10000000){y:LV}(h:X∉xs.map key):qA s (Y l) (f2 (nL X)) y=J (ur s l (f8 (dT key val xs++[(f2 (nL X),y)]))):=by
 have e:Cp (dT key val xs) (f2 (nL X)) y=dT key val xs++[(f2 (nL X),y)]:=by unfold Cp B6;exact D (N9 h) H
 exact D (SN hl G5 (EY X) (D QV (D sS (tY [10000000,16777216] 0x4240900120402 H hz)))) (D e H)
noncomputable def uv(G:Gm)(r:SR):V M:=r.aG.map G.it
noncomputable def kN(ks:V (V M)):V (LV×LV):=dT gS (λp:V M×M=>f0 p.2) ks.zipIdx
theorem BU{α:Type}(l:V α):l.zipIdx.map gS=l:=List.zipIdx_map_fst 0 l
theorem Td:kN (gw++[w])=kN gw++[(f2 (nL w),f0 (R gw:M))]:=by
 unfold kN dT;exact D o5 (D gF (D (iB _) H))
noncomputable def wR(G:Gm)(A:Ag)(S:V SR)(rest:V (sE×LO)):V (sE×LO):=
 (A.aE,f1 (S.map λr=>Y r.ae))::(A.au,f8 (kN (S.map (uv G))))::(A.ae,f4 425 A.af [Y A.az,Y A.ai,Y A.aE,Y A.au])::(UX G 0 S++rest)
theorem H6(O:sX E s ((a,f4 264 d [])::pre))(k:∀ia ma ra s',sX E s' ((ra,f1 [])::(ma,f8 [])::(ia,f1 [])::(a,f4 264 d [b,v,ZM,Y ia,Y ma,Y ra])::pre)->K .none s'):zr [Y a,b,v,ZM] s K:=by
 refine Gx (cS O 0 H (Z H) (Z H) (gE _) λs O=>(cS O 0 H (Z H) (Z H) (gC 1) λs O=>(cS O 0 H (Z H) (Z H) (gC 2) λs O=>cY ⟨by decide,λia h=>tS (O.new (o:=f1 []) h) 1 H (Z H) (gC 3) λs O=>?_⟩)));exact cY λma h=>tS (O.new (o:=f8 []) h) 2 H (Z H) (gC 4) λs O=>cY ⟨by decide,λra h=>tS (O.new (o:=f1 []) h) 3 H (Z H) (gC 5) λs O=>k ia ma ra s O⟩
theorem G6{α:Type}{l4 l4' X F bi:V α}(h:l4.Perm l4'):(l4++(X++(F++bi))).Perm (X++((F++l4')++bi)):=by
 refine(o6 l4 X (F++bi)).trans (o7 X ?_);rw[gW];exact(o6 l4 F bi).trans (o7 F (List.Perm.append_right bi h))
theorem Gq(O:sX E s (wR G gk S pre))(nd:(S.map (uv G)).Nodup)(hz:R S<=100000)
  (k:∀S' n s',sX E s' (wR G gk S' pre)->((S'=S/\∃r,S[n]?=J r/\uv G r=I.map G.it)\/(n=R S/\I.map G.it∉S.map (uv G)/\∃r,S'=S++[r]/\r.aG=I/\r.aJ=[]/\r.xs=[]/\r.rs=[]))->K (f0 (n:M)) s'):vu [Y gk.ae,f2 (nL (I.map G.it)),sy] s K:=by
 have hb:s gk.ae=J (f4 425 gk.af [Y gk.az,Y gk.ai,Y gk.aE,Y gk.au]):=O.Zu 2 H;refine CA (cL (rL (Z H) (rH (Z H) (rT hb H)) (eV (O.Zu 1 H) (D (BU _) nd))) (λq=>?_) λq=>sP ?_)
 .have q:I.map G.it∉S.map (uv G):=by rw[BU]at q;simpa using q
  have hc:s gk.aE=J (f1 (S.map λr=>Y r.ae)):=O.Zu 0 H;refine cJ (rJ (v:=f0 (R S:M)) (cE (rH (Z H) (rT hb H)) cF) (tj (gy ..) (sa hc)) _ (rH (Z H) (rT hb H) _ (Z (v:=f2 (nL (I.map G.it))) H _ ?_)));have e3:=xZ (y:=f0 (R S:M)) (O.Zu 1 H) (D o8 (D (gy _) (tY [100000,10000000] 0x4240900120402 H hz))) (D (BU _) q);change _=J (ur s gk.au (f8 (kN (S.map (uv G))++[(f2 (nL (I.map G.it)),f0 (R S:M))]))) at e3;refine(ti _ e3 ?_);have O:=O.set 1 H (f8 (kN (S.map (uv G))++[(f2 (nL (I.map G.it)),f0 (R S:M))]));refine ?_;generalize ur s gk.au _=s at O;have hb:s gk.ae=J (f4 425 gk.af [Y gk.az,Y gk.ai,Y gk.aE,Y gk.au]):=O.Zu 2 H;have hc:s gk.aE=J (f1 (S.map λr=>Y r.ae)):=O.Zu 0 H;refine cJ (dD (dA (rH (v:=Y gk.aE) (Z H) (rT hb H) _ ⟨dk hc,cC (dS O (cE (v:=f0 (R S:M)) (rJ (cE (rH (Z H) (rT hb H)) cF) (tj (gy ..) (sa hc))) (cE (Z H) (cE (Z H) cF))) λa da s O=>H6 O λia ma ra s O=>⟨H,cH ?_⟩)⟩)));have hc:s gk.aE=J (f1 (S.map λr=>Y r.ae)):=O.Zu 4 H;refine dP hc (D (gy ..) (tY [100000,16777215] 0x4240900120402 H hz)) ?_;have O:=O.set 4 H (f1 ((S.map λr=>Y r.ae)++[Y a]));generalize hs:ur s gk.aE _=s' at O;refine sP (sP ?_);generalize hr:(SR.mk a da ia ma ra sy I [] [] (λø=>0) [])=r
  have O:sX E s' (wR G gk (S++[r]) pre):=by
   refine O.perm (l':=wR G gk (S++[r]) pre) ?_
   have e:wR G gk (S++[r]) pre=[(gk.aE,f1 ((S.map λr=>Y r.ae)++[Y a])),(gk.au,f8 (kN (S.map (uv G))++[(f2 (nL (I.map G.it)),f0 (R S:M))])),(gk.ae,f4 425 gk.af [Y gk.az,Y gk.ai,Y gk.aE,Y gk.au])]++((UX G 0 S++r.ZC G (R S))++pre):=by
    unfold wR UX;refine D gF (D gF (D Tc (D (iB _) (D jc (D jc (D Td (D (gy _) ?_)))))));subst hr;exact D (show PJ (λq r=>SR.ZC G q r) (R S) [SR.mk a da ia ma ra sy I [] [] (λø=>0) []]=SR.ZC G (R S) (SR.mk a da ia ma ra sy I [] [] (λø=>0) []) from gY _) H
   refine D e ?_;refine G6 (X:=[(gk.aE,f1 ((S.map λr=>Y r.ae)++[Y a])),(gk.au,f8 (kN (S.map (uv G))++[(f2 (nL (I.map G.it)),f0 (R S:M))])),(gk.ae,f4 425 gk.af [Y gk.az,Y gk.ai,Y gk.aE,Y gk.au])]) (F:=UX G 0 S) (bi:=pre) (l4':=r.ZC G (R S)) (l4:=[(ra,f1 []),(ma,f8 []),(ia,f1 []),(a,f4 264 da [f0 (R S),f2 (nL (I.map G.it)),sy,Y ia,Y ma,Y ra])]) ?_;refine tj hr ?_;exact(List.reverse_perm [(ra,f1 []),(ma,f8 []),(ia,f1 []),(a,f4 264 da [f0 (R S),f2 (nL (I.map G.it)),sy,Y ia,Y ma,Y ra])]).symm
  have hb:s' gk.ae=J (f4 425 gk.af [Y gk.az,Y gk.ai,Y gk.aE,Y gk.au]):=O.Zu 2 H
  have nd2:(((S++[r]).map (uv G)).zipIdx.map gS).Nodup:=by
   exact D (BU _) (D gF (iP.mpr (uS nd (u5 _) (λb hb c hc e=>q (by rw[jc,gJ]at hc;subst hr;have e:b=I.map G.it:=e.trans hc;exact e▸hb)))))
  have hm:(I.map G.it,R S)∈((S++[r]).map (uv G)).zipIdx:=by
   refine AU (mM) (D (gG) (D (il (gC _)) (D (iI _) ?_)));refine tj hr ?_;rfl
  exact cP (rE (rH (Z H) (rT hb H)) (Z H) (dO (O.Zu 1 H) nd2 hm)) (k (S++[r]) (R S) s' O (.inr (uS H q (wU r H (by refine tj hr ?_;rfl) (by refine tj hr ?_;rfl) ⟨by refine tj hr ?_;rfl,by refine tj hr ?_;rfl⟩))))
 .have q:I.map G.it∈S.map (uv G):=by rw[BU]at q;simpa using q
  refine s9 (gL.mp q) λr hr e=>xE (ie hr) λn hn=>?_
  have hm:(I.map G.it,n)∈(S.map (uv G)).zipIdx:=by
   refine AU (mM) (D (gG) (D hn ?_));exact sJ J e
  exact cP (rE (rH (Z H) (rT hb H)) (Z H) (dO (O.Zu 1 H) (D (BU _) nd) hm)) (k S n s O (.inl ⟨H,(ti r hn e)⟩))
noncomputable def Xj(K:KS):KS:=λfl em E=>∃ę,L.x? E ę/\K fl em ę
theorem eZ{bv:Type}{loc:bv->uZ}{z0:bv}{i0:M}(O:sX E s pre)(hi:pre[i0]?=J (d,f8 Zy))(he:Ev e (loc z0) s (Y d))(inv:Obj->M->bv->LH->Prop)
  (h0:∀o s',sX E s' (pre.set i0 (d,Da o Zy))->inv o 0 z0 s') (hl:∀o i z s,inv o i z s->s d=J (Da o Zy))
  (step:∀o i kv z s (K':KS),Zy[i]?=J kv->inv o i z s->(∀fl em s',ue (zI loc (inv o (i+1))) (Xj Kb) fl em s'->K' fl em s')->bb ((loc z).set k (J kv.1)) s K')
  (fin:∀o z s,inv o (R Zy) z s->Kb .next (loc z) (ur s d (f8 Zy))):qM (qI (qK e) (qF k) bb) (loc z0) s Kb:=
 he _ (tU _ _ H (O.Zu i0 hi) (λo=>(Qv (λi=>zI loc (inv o i)) ⟨z0,H,h0 o _ (O.set i0 hi _)⟩ (λi ρ s ZN=>s9 ZN λz ø h=>hl _ _ _ _ h) (λi v ρ s K' hv ZN hK=>s9 ZN λz e h=>e▸step o i v z s K' hv h hK) λρ s ZN=>s9 ZN λz e h=>⟨_,.inr ⟨d,o,Zy,hl _ _ _ _ h,H⟩,e▸fin o z s h⟩)))
theorem QW{α β:Type}{f:M->α->V β}(hf:∀q r,R (f q r)=4){r':α}{v1 v2:β}(h1:i<4)(h2:t<4){S:V α}{r0:α}:∀{q b:M},S[q]?=J r0->f (b+q) r'=((f (b+q) r0).set i v1).set t v2->((PJ f b S).set (4*q+i) v1).set (4*q+t) v2=PJ f b (S.set q r'):=by
 induction S with
 | nil=>exact λh ø=>z9 h
 | cons r S ih=>
  intro q b h e;cases q with
  | zero=>
   refine D (gv h) ?_;rw[mw]at e
   (rewrite[H5];refine D (mj _ _ (D (hf _ _) (tY [4,0] 0x1204200940120422 H h1))) (D (mj _ _ (D lI (D (hf _ _) (tY [4,0] 0x1204200940120422 H h2)))) (D (Nat.mul_zero _) (D (iB _) (D (iB _) (tj e ?_))))));rfl
  | succ q=>
   (rewrite[H5];refine D (kj _ _ (D (hf _ _) (tD [4,1] 0x5084800080008481 H))) (D (hf _ _) (D (show 4*(q+1)+i - 4=4*q+i by exact gZ (uy [4,1] 0x18a01008121821280020002400442 H (gO (tD [4,1] 0x5084800080008481 H))) (uy [4,1] 0x10c50080121821280020002400462 H (gO (tD [4,1] 0x5084800080008481 H)))) (D (kj _ _ (D (hf _ _) (tD [4,1] 0x5084800080008481 H))) (D (hf _ _) (D (show 4*(q+1)+t - 4=4*q+t by exact gZ (uy [4,1] 0x18a01008121821280020002400442 H (gO (tD [4,1] 0x5084800080008481 H))) (uy [4,1] 0x10c50080121821280020002400462 H (gO (tD [4,1] 0x5084800080008481 H)))) (D (ih (b:=b+1) h (D (show b+1+q=b+(q+1) by exact gZ (tD [1] 0x25010050048000481 H) (tD [1] 0x1401200000940400481 H)) e)) ?_)))))));rfl
theorem we{α β:Type}{f:α->β}{S:V α}{r r':α}(hr:S[m]?=J r)(e:f r'=f r):(S.set m r').map f=S.map f:=by
 apply jj;intro i;refine D (gG) (D (gG) (D (jx) ?_))
 by_cases q:m=i
 .subst q;refine D (sI H) (D (sI (gB.mp hr).1) (D hr ?_));exact sJ J e
 .exact D (sH q) H
theorem wb{α:Type}{S:V α}{r r' x:α}(hr:S[m]?=J r):(S.set m r')[i]?=J x<->(i=m/\x=r')\/(i≠m/\S[i]?=J x):=by
 refine D (jx) ?_
 by_cases q:m=i
 .subst q;refine D (sI H) (D (sI (gB.mp hr).1) ?_);exact⟨λh=>.inl ⟨H,(gv h).symm⟩,λh=>h.elim (λh=>sJ J h.2.symm) λh=>absurd rfl h.1⟩
 .exact D (sH q) ⟨λh=>.inr ⟨Ne.symm q,h⟩,λh=>h.elim (λh=>absurd h.1.symm q) kZ⟩
theorem vx(hr:S[m]?=J r')(hk:k<4):(wR G gk S pre)[4*m+k+3]?=(r'.ZC G m)[k]?:=by
 refine(?_:(UX G 0 S++pre)[4*m+k]?=_);have h:=VN (f:=λq r'=>SR.ZC G q r') (λø ø=>G4) (b:=0) hr hk;rw[iB]at h
 (rewrite[hV];refine tj h ?_);· rfl
 exact D (N8 λø ø=>G4) (uy [4] 0x3004520040094c42040128423 H hk ((gB.mp hr).1))
theorem F4{k1 k2:M}{v1 v2:sE×LO}(hr:S[m]?=J r0)(ha:r'.ae=r0.ae)(hI:r'.aG=r0.aG)(h1:k1<4)(h2:k2<4)(e:r'.ZC G m=((r0.ZC G m).set k1 v1).set k2 v2):((wR G gk S pre).set (4*m+k1+3) v1).set (4*m+k2+3) v2=wR G gk (S.set m r') pre:=by
 have hm:=(gB.mp hr).1;have hlen:R (UX G 0 S)=4*R S:=by unfold UX;exact D (N8 λø ø=>G4) H
 unfold wR;rewrite[we (f:=λr0=>Y r0.ae) hr (sJ Y ha),we (f:=uv G) hr (by unfold uv;exact D hI H)];refine(?_:_::_::_::((UX G 0 S++pre).set (4*m+k1) v1).set (4*m+k2) v2=_);exact D (mj _ _ (D hlen (uy [4] 0x3004520040094c42040128423 H h1 hm))) (D (mj _ _ (D lI (D hlen (uy [4] 0x3004520040094c42040128423 H h2 hm)))) (D (QW (f:=λq r0=>SR.ZC G q r0) (λø ø=>G4) (b:=0) h1 h2 hr (D (iB _) e)) H))
theorem Pm{k1:M}{v1:sE×LO}(hr:S[m]?=J r0)(ha:r'.ae=r0.ae)(hI:r'.aG=r0.aG)(h1:k1<4)(e:r'.ZC G m=(r0.ZC G m).set k1 v1):(wR G gk S pre).set (4*m+k1+3) v1=wR G gk (S.set m r') pre:=
 tj (F4 hr ha hI h1 h1 (v1:=v1) (v2:=v1) (D (ki _) e)) (D (ki _) H)
noncomputable abbrev Jd(G:Gm)(S:V SR)(r:SR):Prop:=B4 G r.aG r.aJ/\(R r.rs<=20/\r.rs.Nodup)/\(∀t,t∈r.rs<->t≠0/\(t,R (G.Zv t))∈r.aJ)/\r.xs.Nodup/\∀X∈r.xs,∃r',S[r.aQ X]?=J r'/\uv G r'=um ((vZ G X r.aJ).map G.it)
def Jd.o0(h:Jd G S r'):=h.1
def Jd.aX(h:Jd G S r'):=h.2.1
def Jd.rs(h:Jd G S r'):=h.2.2.1
def Jd.nd(h:Jd G S r'):=h.2.2.2.1
def Jd.aQ(h:Jd G S r'):=h.2.2.2.2
noncomputable def VP(G:Gm)(r:SR):Prop:=∀X,X∈r.xs<->∃p∈r.aJ,(G.Zv p.1)[p.2]?=J X
noncomputable abbrev BI(G:Gm)(S:V SR)(m u:M):Prop:=(∀r∈S,(∀p∈r.aG,G.Ok p)/\(uv G r).Pairwise (· < ·))/\(S.map (uv G)).Nodup/\(∃r,S[0]?=J r/\r.aG=[(0,0)])/\(∀q r,S[q]?=J r->q≠0->∀p∈r.aG,p.2≠0)/\(∀q r,q<m->S[q]?=J r->Jd G S r/\VP G r)/\(∀q r,u<=q->S[q]?=J r->r.aJ=[]/\r.xs=[]/\r.rs=[])/\∀q,q<R S->q≠0->∃p r X,p<q/\S[p]?=J r/\X∈r.xs/\r.aQ X=q
def BI.ww(h:BI G S m i):=h.1
def BI.nd(h:BI G S m i):=h.2.1
def BI.aT(h:BI G S m i):=h.2.2.1
def BI.dot(h:BI G S m i):=h.2.2.2.1
def BI.ex(h:BI G S m i):=h.2.2.2.2.1
def BI.un(h:BI G S m i):=h.2.2.2.2.2.1
def BI.rc(h:BI G S m i):=h.2.2.2.2.2.2
theorem Jd.Zz(h:Jd G S r0)(hs:∀(n:M) r',S[n]?=J r'->∃ň,S'[n]?=J ň/\ň.aG=r'.aG):Jd G S' r0:=
 ⟨h.o0,h.aX,h.rs,h.nd,λX hX=>by
  exact s9 (h.aQ X hX) λr' h1 h2=>s9 (hs _ _ h1) λň h3 h4=>(ti ň h3 (by unfold uv at h2 ⊢;exact D h4 h2))⟩
theorem QX(h:w.Pairwise (·<=·))(n:w.Nodup):w.Pairwise (· < ·):=(h.and n).imp λZN=>xA ZN λa b=>kr a b
theorem BI.set(B:BI G S m m)(hr:S[m]?=J r0)(hI:r'.aG=r0.aG)(hx:r'.xs=[]):BI G (S.set m r') m (m+1):=by
 have hs:∀(n:M) x,S[n]?=J x->∃y,(S.set m r')[n]?=J y/\y.aG=x.aG:=λn x h=>by
  by_cases q:n=m
  .subst q;obtain rfl:=gv (hr.symm.trans h);exact(ti r' ((wb hr).mpr (.inl ⟨H,H⟩)) hI)
  .exact(ti x ((wb hr).mpr (.inr ⟨q,h⟩)) H)
 refine⟨λx Ē=>?_,(we hr (by unfold uv;exact D hI H):(S.set m r').map (uv G)=S.map (uv G))▸B.nd,?_,λq x h h0=>?_,λq x hq h=>?_,λq x hq h=>?_,λq hq h0=>?_⟩
 .rcases lH Ē with h | rfl
  .exact B.ww x h
  .have:=B.ww r0 (gz hr);unfold uv at this ⊢;exact D hI this
 .exact s9 B.aT λx h1 h2=>s9 (hs _ _ h1) λy h3 h4=>(ti y h3 (h4.trans h2))
 .rcases (wb hr).mp h with ⟨rfl,rfl⟩ | ⟨_,h⟩
  .exact D hI (B.dot _ r0 hr h0)
  .exact B.dot q x h h0
 .rcases (wb hr).mp h with ⟨rfl,rfl⟩ | ⟨_,h⟩
  .exact absurd hq (iV _)
  .exact⟨(B.ex q x hq h).1.Zz hs,(B.ex q x hq h).2⟩
 .rcases (wb hr).mp h with ⟨rfl,rfl⟩ | ⟨_,h⟩
  .exact absurd hq (o9 _)
  .exact B.un q x (Nat.le_of_succ_le hq) h
 .rw[lI]at hq;refine t9 (B.rc q hq h0) λp x X h1 h2 h3 h4=>?_
  by_cases e:p=m
  .subst e;rw[(B.un p x (gC _) h2).2.1]at h3;cases h3
  .exact(uQ p x X h1 ((wb hr).mpr (.inr ⟨e,h2⟩)) h3 h4)
theorem BI.done(B:BI G S m (m+1))(hr:S[m]?=J r')(am:Jd G S r')(F:VP G r'):BI G S (m+1) (m+1):=
 ⟨B.ww,B.nd,B.aT,B.dot,λq x hq h=>by
  refine(kq (kM.mp hq)).elim (λhq=>?_) λhq=>?_
  .exact B.ex q x hq h
  .rw[hq,hr]at h;refine tj (gv h) ?_;exact⟨am,F⟩,B.un,B.rc⟩
noncomputable def H7(G:Gm)(S S':V SR)(n:M)(I':V (M×M)):Prop:=(S'=S/\∃r',S[n]?=J r'/\uv G r'=I'.map G.it)\/(n=R S/\I'.map G.it∉S.map (uv G)/\∃rn,S'=S++[rn]/\rn.aG=I'/\rn.aJ=[]/\rn.xs=[]/\rn.rs=[])
theorem H7.sub(o:H7 G S S' t I')(h:S[i]?=J r'):S'[i]?=J r':=
 o.elim (λo=>D o.1 h) λo=>s9 o.2.2 λrn e ø=>D e (D (hV (gB.mp h).1) h)
theorem H7.len(o:H7 G S S' i I'):R S<=R S':=
 o.elim (λo=>i5 (sJ jr o.1.symm)) λo=>s9 o.2.2 λrn e ø=>D e (D gK (jR _ _))
theorem H7.inv(o:H7 G S S' t I')(h:S'[i]?=J r'):S[i]?=J r'\/(i=R S/\t=R S/\S'=S++[r']/\r'.aG=I'/\r'.aJ=[]/\r'.xs=[]/\r'.rs=[]):=by
 refine o.elim (λo=>.inl (o.1▸h)) λo=>s9 o.2.2 λrn e À=>?_
 rw[e]at h
 by_cases hq:i<R S
 .rw[hV hq]at h;exact .inl h
 .rw[il (jv.mp hq),mT]at h
  by_cases z:i - R S=0
  .rw[sI z]at h;refine tj (gv h) ?_;exact .inr ⟨gZ (pe z) (jv.mp hq),o.1,e,À⟩
  .rw[sH z]at h;exact uH h
theorem H7.has(o:H7 G S S' i I'):∃rn,S'[i]?=J rn/\uv G rn=I'.map G.it:=
 o.elim (λo=>D o.1 o.2) λo=>s9 o.2.2 λrn e À=>ti rn (D e (D o.1 (D (il (gC _)) (D (iI _) H)))) (sJ (λI:V (M×M)=>I.map G.it) À.1)
theorem H7.nd(o:H7 G S S' i I')(h:(S.map (uv G)).Nodup):(S'.map (uv G)).Nodup:=
 o.elim (λo=>D o.1 h) λo=>s9 o.2.2 λrn e À=>D e (D gF (iP.mpr ⟨h,u5 _,λb hb c hc e=>o.2.1 ((e.trans ((gJ.mp hc).trans (sJ (λI:V (M×M)=>I.map G.it) À.1)))▸hb)⟩))
theorem BI.step(B:BI G S m (m+1))(hr:S[m]?=J r0)(am:Jd G S r0)(hX:X∉r0.xs)(hk:I'.map G.it=um ((vZ G X r0.aJ).map G.it))(hp:I'.Perm (vZ G X r0.aJ))
  (out:(S'=S/\∃r',S[i]?=J r'/\uv G r'=I'.map G.it)\/(i=R S/\I'.map G.it∉S.map (uv G)/\∃rn,S'=S++[rn]/\rn.aG=I'/\rn.aJ=[]/\rn.xs=[]/\rn.rs=[])) :
  S'[m]?=J r0/\R S<=R S'/\BI G (S'.set m {r0 with xs:=r0.xs++[X],aQ:=λsC=>if sC=X then i else r0.aQ sC}) m (m+1)/\Jd G (S'.set m {r0 with xs:=r0.xs++[X],aQ:=λsC=>if sC=X then i else r0.aQ sC}) {r0 with xs:=r0.xs++[X],aQ:=λsC=>if sC=X then i else r0.aQ sC}:=by
 generalize sB:({r0 with xs:=r0.xs++[X],aQ:=λsC=>if sC=X then i else r0.aQ sC}:SR)=r2;have e1:r2.aG=r0.aG:=by refine tj sB ?_;rfl
 have e2:r2.aJ=r0.aJ:=by refine tj sB ?_;rfl
 have e3:r2.xs=r0.xs++[X]:=by refine tj sB ?_;rfl
 have e4:∀sC,r2.aQ sC=if sC=X then i else r0.aQ sC:=by refine tj sB ?_;exact λsC=>rfl
 have e5:r2.rs=r0.rs:=by refine tj sB ?_;rfl
 have out:H7 G S S' i I':=out;have Z1:∀q x,S[q]?=J x->S'[q]?=J x:=λq x=>out.sub
 have ZP:=Z1 m r0 hr;have hinv:∀q x,S'[q]?=J x->S[q]?=J x\/(q=R S/\i=R S/\S'=S++[x]/\x.aG=I'/\x.aJ=[]/\x.xs=[]/\x.rs=[]):=λq x=>out.inv
 have hs:∀(q:M) x,S'[q]?=J x->∃y,(S'.set m r2)[q]?=J y/\y.aG=x.aG:=λq x h=>by
  by_cases e:q=m
  .obtain rfl:=e.symm;refine tj (gv (ZP.symm.trans h)) ?_;exact(ti r2 ((wb ZP).mpr (.inl ⟨H,H⟩)) e1)
  .exact(ti x ((wb ZP).mpr (.inr ⟨e,h⟩)) H)
 have ZQ:∀p∈I',G.Ok p/\p.2≠0:=λp h=>by
  exact s9 (Bk.mp (hp.mem_iff.mp h)) λd e ø=>⟨EW am.o0.ok (hp.mem_iff.mp h),by exact D e (kT _)⟩
 have Ψ:(I'.map G.it).Pairwise (· < ·):=by
  refine D hk (QX (ES _) ((tE _).nodup_iff.mpr (LR (N7 am.o0.nd) λp hp=>EW am.o0.ok hp)))
 refine(AV ZP out.len ⟨λx hx=>?_,?_,?_,λq x h h0=>?_,λq x hq h=>?_,λq x hq h=>?_,λq hq h0=>?_⟩ ?_)
 .have key:∀x∈S',(∀p∈x.aG,G.Ok p)/\(uv G x).Pairwise (· < ·):=λx hx=>by
   refine xE (ie hx) λq hq=>?_
   rcases hinv q x hq with h | ⟨_,_,_,h,_⟩
   .exact B.ww x (gz h)
   .unfold uv;exact D h ⟨λp hp=>(ZQ p hp).1,Ψ⟩
  rcases lH hx with h | rfl
  .exact key x h
  .have:=key r0 (gz ZP);unfold uv at this ⊢;exact D e1 this
 .exact D (we ZP (by unfold uv;exact D e1 H):(S'.set m r2).map (uv G)=S'.map (uv G)) (out.nd B.nd)
 .exact s9 B.aT λx h1 h2=>s9 (hs _ _ (Z1 _ _ h1)) λy h3 h4=>(ti y h3 (h4.trans h2))
 .rcases (wb ZP).mp h with ⟨rfl,rfl⟩ | ⟨_,h⟩
  .exact D e1 (B.dot _ r0 hr h0)
  .rcases hinv q x h with h | ⟨_,_,_,h,_⟩
   .exact B.dot q x h h0
   .exact D h (λp hp=>(ZQ p hp).2)
 .rcases (wb ZP).mp h with ⟨rfl,rfl⟩ | ⟨_,h⟩
  .exact absurd hq (iV _)
  .rcases hinv q x h with h | ⟨h,_⟩
   .refine⟨((B.ex q x hq h).1.Zz (S':=S') λi r' h=>(ti r' (Z1 i r' h) H)).Zz hs,(B.ex q x hq h).2⟩
   .exact(OH [] 0x5304643042520423 H ((gB.mp hr).1) hq h).elim
 .rcases (wb ZP).mp h with ⟨rfl,rfl⟩ | ⟨_,h⟩
  .exact absurd hq (o9 _)
  .rcases hinv q x h with h | ⟨_,_,_,_,h1,h2,h3⟩
   .exact B.un q x hq h
   .exact(uS h1 h2 h3)
 .rw[lI]at hq
  by_cases At:q<R S
  .refine t9 (B.rc q At h0) λp x sC h1 h2 h3 h4=>?_
   by_cases e:p=m
   .subst e;obtain rfl:=gv (hr.symm.trans h2);exact(uQ p r2 sC h1 ((wb ZP).mpr (.inl ⟨H,H⟩)) (D e3 (gV _ h3)) (D (e4 _) (D (sH λ(e:sC=X)=>hX (e▸h3)) h4)))
   .exact(uQ p x sC h1 ((wb ZP).mpr (.inr ⟨e,Z1 _ _ h2⟩)) h3 h4)
  .rcases hinv q S'[q] (gM hq) with h | ⟨h1,h2,_⟩
   .exact absurd (gB.mp h).1 At
   .exact(uQ m r2 X (uy [] 0x5204a62846620423 H ((gB.mp hr).1) h1) ((wb ZP).mpr (.inl ⟨H,H⟩)) (D e3 (gU _ (iE _))) (D (e4 _) (D (sI H) (D h1 (D h2 H)))))
 .refine⟨by refine D e1 (D e2 ?_);exact am.o0,by refine D e5 ?_;exact am.aX,by refine D e5 (D e2 ?_);exact am.rs,?_,λsC hY=>?_⟩
  .exact D e3 (iP.mpr (uS am.nd (u5 _) (λb hb c hc e=>hX (by rw[gJ]at hc;exact(e.trans hc)▸hb))))
  .refine D e2 (D (e4 _) ?_)
   by_cases e:sC=X
   .refine s9 out.has λrn h1 h2=>s9 (hs _ _ h1) λy h3 h4=>D (sI e) (D e (ti y h3 ?_))
    unfold uv at h2 ⊢;exact D h4 (D h2 (D hk H))
   .refine D (sH e) ?_;rw[e3]at hY;exact s9 (am.aQ sC ((gP.mp hY).resolve_right λh=>e (gJ.mp h))) λr' h1 h2=>s9 (hs _ _ (Z1 _ _ h1)) λy h3 h4=>(ti y h3 (by unfold uv at h2 ⊢;exact D h4 h2))
noncomputable def LU{α:Type}:V α->V (V α)
 | []=>[[]]
 | a::l=>LU l++(LU l).map (a::·)
theorem VQ{α:Type}{a:α}{l:V α}:LU (a::l)=LU l++(LU l).map (a::·):=H
theorem QY{α:Type}(l:V α):R (LU l)=2 ^ R l:=by
 induction l with
 | nil=>rfl
 | cons a l ih=>
  (rewrite[VQ];refine D gK (D (gy _) (D ih (D iu (D (Nat.pow_succ _ _) ?_)))));exact gZ (tY [2] 0x400c8400481 H) (tY [2] 0x42008018481 H)
theorem QZ{α:Type}{l m:V α}(h:l.Sublist m):l∈LU m:=by
 induction h with
 | slnil=>exact iE _
 | cons a _ ih=>exact gV _ ih
 | cons_cons a _ ih=>exact gU _ (iD ih)
theorem AO:∀{m l:V M},l.Pairwise (· < ·)->m.Pairwise (· < ·)->(∀x∈l,x∈m)->l.Sublist m
 | [],[],_,_,_=>.slnil
 | [],a::l,_,_,h=>by have:=h a gI;cases this
 | b::m,[],_,_,_=>mU _
 | b::m,a::l,hl,hm,h=>by
  refine xA (jP.mp hl) λl1 l2=>xA (jP.mp hm) λm1 m2=>?_
  by_cases e:a=b
  .subst e;refine .cons_cons _ (AO l2 m2 λx hx=>?_)
   rcases gX.mp (h x (gH _ hx)) with q | q
   .exact absurd (l1 x hx) (q▸iV _)
   .exact q
  .have ha:a∈m:=(gX.mp (h a gI)).resolve_left e;refine .cons _ (AO hl m2 λx hx=>?_)
   rcases gX.mp (h x hx) with q | q
   .rcases gX.mp hx with r | r
    .exact r▸ha
    .exact(OH [] 0x6284243042520443 H q (l1 x r) (m1 a ha)).elim
   .exact q
noncomputable def VR(G:Gm):V M:=(gN (R G.ZF)).flatMap λr=>(gN (R (G.Zv r))).map λd=>G.it (r,d+1)
theorem Q0(G:Gm):R (VR G)=((gN (R G.ZF)).map λr=>R (G.Zv r)).sum:=by
 refine D nX ?_
 congr 1
 apply k9;intro r _;exact D (gy _) (D iq H)
theorem BI.len(hS:G.Sm)(B:BI G S m X):R S<=1025:=by
 generalize hM:(gN G.count).filter (λn=>decide (n∈VR G))=be;have A_:be.Pairwise (· < ·):=hM▸List.pairwise_lt_range.filter _
 have ū:R be<=10:=by
  have h1:=tP (l:=be) (m:=VR G) (A_.imp λh=>jh h) λx hx=>by
   rw[<- hM]at hx;exact sQ (iH.mp hx).2
  rw[Q0]at h1;exact gA h1 hS.tot
 have h:=tP (l:=(S.map (uv G)).tail) (m:=LU be) (B.nd.sublist (List.tail_sublist _)) λt ht=>by
  refine xE (ie ht) λi hi=>?_
  rw[List.getElem?_tail,gG]at hi;refine vp t (gR.mp hi) λr hr=>xA (B.ww r (gz hr)) λh1 h2=>QZ (AO h2 A_ λx hx=>(vp x (gL.mp hx) λp hp=>?_))
  have h3:=B.dot _ r hr (kT _) p hp;have h4:=h1 p hp;refine tj hM (iH.mpr ⟨iM.mpr h4.lt,sM ?_⟩);obtain ⟨pr,pd⟩:=p;cases pd with
  | zero=>exact absurd rfl h3
  | succ d=>exact l9.mpr (ti pr (iM.mpr h4.ao) (gL.mpr (ti d (iM.mpr h4.au) H)))
 rw[QY,List.length_tail,gy]at h;exact uy [1024,1,1025] 0x412048109404080013040628404 H h (lA (show 0<2 by decide) ū) (Yc _ _)
theorem fP{α:Type}{key:α->M}{val:α->LV}{xs:V α}(hl:s l=J (.frz od (dI key val xs)))(hn:(xs.map key).Nodup){q:α}(hq:q∈xs):Op (qi (.ref l) (.int (key q:M))) s (val q):=λK k=>(ti _ (.inr (tC _ (.inr ⟨_,hl⟩) (.int BS) (J9 hn hq))) k)
noncomputable def Zo.ZA(A:Ag)(b c:sE)(z:sF LV):uZ:=[J (Y A.ae),J (Y b),J (Y c),z]
noncomputable abbrev YB(G:Gm)(A:Ag)(st:LH)(S0:V SR)(r0:SR)(m:M)(cb:sE)(xs:V M)(o:Obj)(i:M)(s:LH):Prop:=∃S r,sX st s (wR G A S [(cb,Da o (PI G r0.aJ xs))])/\BI G S m (m+1)/\S[m]?=J r/\Jd G S r/\r.ae=r0.ae/\r.aJ=r0.aJ/\r.xs=xs.take i/\R S0<=R S
noncomputable def YB.ex(h:YB G gk E S0 r0 m a w od i s):=h
theorem C9:(wR G gk S pre).Perm (pre++wR G gk S []):=by
 unfold wR;refine D (gY _) (List.Perm.trans ?_ lJ);exact kQ _
theorem VS{n:M}(hX:X∉r'.xs):({r' with xs:=r'.xs++[X],aQ:=λsC=>if sC=X then n else r'.aQ sC}:SR).ZC G m=(r'.ZC G m).set 2 (r'.a6,f8 (r'.ι++[(f0 (X:M),f0 (n:M))])):=by
 have e:({r' with xs:=r'.xs++[X],aQ:=λsC=>if sC=X then n else r'.aQ sC}:SR).ι=r'.ι++[(f0 (X:M),f0 (n:M))]:=by
  refine(?_:(r'.xs++[X]).map (λq=>(f0 (q:M),f0 ((if q=X then n else r'.aQ q:M):al)))=r'.xs.map (λq=>(f0 (q:M),f0 (r'.aQ q:M)))++_);refine D gF (D jc (D (sI H) ?_))
  congr 1
  exact k9 λsC hY=>D (sH λ(e:sC=X)=>hX (e▸hY)) H
 refine(?_:[_,_,(r'.a6,f8 _),_]=[_,_,_,_]);exact D e H
theorem Q1(h:GX E gk.az G x)(hS:G.Sm)(hc:CX E gk.ai gk.az d g G F)(O:sX E s (wR G gk S []))(B:BI G S m m)(hr:S[m]?=J r0)(k:∀S' s',sX E s' (wR G gk S' [])->BI G S' (m+1) (m+1)->R S<=R S'->K .none s'):xM [Y gk.ae,Y r0.ae] s K:=by
 have hb:s gk.ae=J (f4 425 gk.af [Y gk.az,Y gk.ai,Y gk.aE,Y gk.au]):=O.Zu 2 H;have Ty:s r0.ae=J (r0.aM G m):=O.Zu (4*m+0+3) (vx (k:=0) hr (by decide));refine Eu (cY (rH (v:=Y gk.ai) (Z H) (rT hb H) _ ⟨cK (O.le _ _ hc.ar),cC (rH (v:=f2 (nL (r0.aG.map G.it))) (Z H) (rT Ty H) _ (cH (Ta (h.Zz O.le) hS (hc.Zz O.le) (B.ww r0 (gz hr)).1 (ox G.it (λa b h e=>h (sJ G.it e)) ((B.ww r0 (gz hr)).2.imp λh=>jh h):r0.aG.Nodup) λrC hJ=>RL.ZC O λia s O=>tS (fs:=[f0 m,f2 (nL (r0.aG.map G.it)),r0.sym,Y r0.ia,Y r0.a6,Y r0.aY]) O (4*m+0+3+1) (vx (k:=0) hr (by decide):(wR G gk S [])[4*m+0+3]?=J (r0.ae,r0.aM G m)) (Z H) (gQ H) λs O=>?_)))⟩))
 have O1:sX E s (wR G gk (S.set m {r0 with ia:=ia,aJ:=rC}) []):=by
  have:=O.swap (4*m+1+3);refine jD (sJ (sX E s) (F4 (k1:=0) (k2:=1) (r':={r0 with ia:=ia,aJ:=rC}) hr H rfl (by decide) (by decide) ?_)) this;rfl
 have KK:(S.set m {r0 with ia:=ia,aJ:=rC})[m]?=J {r0 with ia:=ia,aJ:=rC}:=(wb hr).mpr (.inl ⟨H,H⟩);have Ă:s ia=J (f1 (nL (rC.map G.it))):=O1.Zu (4*m+1+3) (vx (k:=1) KK (by decide));refine cY (cO (cC (rH (v:=Y gk.az) (Z H) (rT (O1.Zu 2 H:s gk.ae=J (f4 425 gk.af [Y gk.az,Y gk.ai,Y gk.aE,Y gk.au])) H) _ (cC (rH (v:=Y ia) (Z H) (rT (O1.Zu (4*m+0+3) (vx (k:=0) KK (by decide)):s r0.ae=J (({r0 with ia:=ia,aJ:=rC}:SR).aM G m)) H) _ (cH (FY (h.Zz O1.le) hS hJ.ok hJ.nd Ă λrs Z2 À pc=>RL.ZC O1 λra s O=>tS (fs:=[f0 m,f2 (nL (r0.aG.map G.it)),r0.sym,Y ia,Y r0.a6,Y r0.aY]) O (4*m+0+3+1) (vx (k:=0) KK (by decide):(wR G gk (S.set m {r0 with ia:=ia,aJ:=rC}) [])[4*m+0+3]?=J (r0.ae,({r0 with ia:=ia,aJ:=rC}:SR).aM G m)) (Z H) (gQ H) λs O=>?_)))))))
 have O2:sX E s (wR G gk (S.set m {r0 with ia:=ia,aJ:=rC,aY:=ra,rs:=rs}) []):=by
  have:=O.swap (4*m+3+3);have:=jD (sJ (sX E s) (F4 (k1:=0) (k2:=3) (r':={r0 with ia:=ia,aJ:=rC,aY:=ra,rs:=rs}) KK H rfl (by decide) (by decide) (by rfl))) this
  rwa [ki]at this
 generalize sB:({r0 with ia:=ia,aJ:=rC,aY:=ra,rs:=rs}:SR)=r2 at O2;have Č:r2.ae=r0.ae:=by refine tj sB ?_;rfl
 have K!:r2.aG=r0.aG:=by refine tj sB ?_;rfl
 have Ŀ:r2.aJ=rC:=by refine tj sB ?_;rfl
 have ŀ:r2.xs=[]:=by refine tj sB ?_;exact(B.un m r0 (gC _) hr).2.1
 have K?:r2.ia=ia:=by refine tj sB ?_;rfl
 have B2:=B.set hr K! ŀ;have ľ:(S.set m r2)[m]?=J r2:=(wb hr).mpr (.inl ⟨H,H⟩);have E2:Jd G (S.set m r2) r2:=⟨by refine D K! (D Ŀ ?_);exact hJ,by refine tj sB ?_;exact⟨Z2,À⟩,by refine tj sB ?_;exact pc,by refine D ŀ ?_;exact iU,λX hX=>by rw[ŀ]at hX;cases hX⟩;have l!:R (S.set m r2)=R S:=lI;generalize S.set m r2=S2 at O2 B2 ľ E2 l!
 have Ă:s ia=J (f1 (nL (rC.map G.it))):=by
  have:=O2.Zu (4*m+1+3) (vx (k:=1) ľ (by decide)) (c:=r2.ia) (o:=f1 (nL (r2.aJ.map G.it)));rw[K?,Ŀ]at this;exact this
 refine cJ (cQ (cO (cC (rH (v:=Y gk.az) (Z H) (rT (O2.Zu 2 H:s gk.ae=J (f4 425 gk.af [Y gk.az,Y gk.ai,Y gk.aE,Y gk.au])) H) _ (cC (rH (v:=Y ia) (Z H) (rT (Č▸O2.Zu (4*m+0+3) (vx (k:=0) ľ (by decide)):s r0.ae=J (r2.aM G m)) (sJ (λa=>J (Y a)) K?)) _ (cH (FZ (h.Zz O2.le) hS hJ.ok hJ.nd Ă λxs TI c_=>RO.ZC O2 λcb s O=>sP ?_))))))));rw[<- Ŀ]at O c_;refine cJ (eZ (loc:=Zo.ZA gk r0.ae cb) (z0:=sD) O (i0:=0) H (Z H) (λo i z s=>YB G gk E S r2 m cb xs o i s) (λo s O=>?_) (λo i z s I=>?_) (λo i kv z s K' SC I hK=>?_) λo z s I=>sP ?_)
 .exact⟨S2,r2,sX.perm (l:=[(cb,Da o (PI G r2.aJ xs))]++wR G gk S2 []) O C9.symm,B2,ľ,E2,H,H,ŀ,i5 l!.symm⟩
 .exact vX I.ex λS' r' O ø=>(O.perm C9).Zu 0 H
 ·(refine vS I.ex λS' r' O B' ZP r9=>Cg r9 λE' ea eJ ex hle=>?_)
  refine xE (by
   unfold PI dI at SC;rw[gG]at SC;exact s9 (gR.mp SC) λX h1 h2=>(ti X h1 h2.symm):∃X,xs[i]?=J X/\kv=(f0 (X:M),f2 (nL (um ((vZ G X r2.aJ).map G.it))))) λX hX=>?_
  obtain ⟨hX,rfl⟩:=hX;refine s9 (BQ (f:=G.it) (tE ((vZ G X r'.aJ).map G.it))) λI' Φ A?=>?_
  have it:Op (qi (Y cb) (f0 (X:M))) s (f2 (nL (I'.map G.it))):=by
   exact D A? (D eJ (fP (key:=id) (val:=λX=>f2 (nL (um ((vZ G X r2.aJ).map G.it)))) ((O.perm C9).Zu 0 H:s cb=J (Da o (PI G r2.aJ xs))) (by exact D (jL _) TI) (gz hX)))
  refine cJ (cT (Z (v:=Y gk.ae) H _ ⟨cK (O.Zu 2 H:s gk.ae=J (f4 425 gk.af [Y gk.az,Y gk.ai,Y gk.aE,Y gk.au])),cC (rE (Z H) (Z H) it _ (cC (cG H (cH (Gq O B'.nd (gA (B'.len hS) (by decide)) λS'' n s O out=>?_)))))⟩));refine D9 (B'.step ZP E' (D ex (yp hX TI)) A? Φ out) λí agw O_ P!=>rH (v:=Y r'.a6) (Z H) (rT (tj Č (tj ea (O.Zu (4*m+0+3) (vx (k:=0) í (by decide)))):s r0.ae=J (r'.aM G m)) H) _ (Z (v:=f0 (X:M)) H _ ?_)
  have hsm:R r'.xs<=10000000:=by
   exact D ex (gA (jW ..) (gA (tP (m:=gN (R G.ZH)) TI λsC hY=>by
    exact s9 ((c_ sC).mp hY) λp hp e=>iM.mpr (hS.ZT (hJ.ok p (Ŀ▸hp)).ao e)) (by refine D iq ?_;exact gA hS.n (by decide))))
  refine(ti _ (Bj (key:=id) (val:=λX=>f0 (r'.aQ X:M)) (O.Zu (4*m+2+3) (vx (k:=2) í (by decide))) hsm (D (jL _) (D ex (yp hX TI)))) (sP (hK .next _ _ (ti _ H ⟨_,_,(jD (sJ (sX E _) (Pm (k1:=2) (r':={r' with xs:=r'.xs++[X],aQ:=λsC=>if sC=X then n else r'.aQ sC}) í H rfl (by decide) (VS (G:=G) (n:=n) (D ex (yp hX TI))))) (O.set (4*m+2+3) (vx (k:=2) í (by decide)) (f8 (r'.ι++[(f0 (X:M),f0 (n:M))])))),O_,(wb í).mpr (.inl ⟨H,H⟩),P!,ea,eJ,?_,?_⟩))))
  .exact D (tF hX) (tj ex H)
  .exact D lI (gA hle agw)
 ·(refine vS I.ex λS' r' O B' ZP r9=>Cg r9 λE' ea eJ ex hle=>?_)
  refine k S' _ ((O.perm C9).set 0 H (f8 (PI G r2.aJ xs))).tail (B'.done ZP E' λX=>?_) hle;have e:R (PI G r2.aJ xs)=R xs:=QP;rw[e,ic]at ex;exact D ex (D eJ (c_ X))
theorem sX.rebase{st:LH}(h:sX st s (l1++l2)):∃ZV,Le st ZV/\sX ZV s l1/\∀p∈l2,ZV p.1=J p.2:=by
 classical
 have Ĉ:=h.nd;rw[gF]at Ĉ;refine zY (iP.mp Ĉ) λn1 ø n3=>(tC (λa=>if a∈l2.map (·.1) then s a else st a) (λa o e=>?_) ⟨λa o e=>?_,n1,λp hp=>⟨(h.ZT p (gV _ hp)).1,?_⟩⟩ (λp hp=>?_))
 .refine(?_:(if a∈l2.map (·.1) then s a else st a)=_)
  split
  .exact h.le _ _ e
  .exact e
 .dsimp only at e
  split at e
  .exact e
  .exact h.le _ _ e
 .refine(?_:(if p.1∈l2.map (·.1) then s p.1 else st p.1)=sF.none);exact D (sH λhm=>n3 p.1 (iD hp) p.1 hm H) ((h.ZT p (gV _ hp)).2)
 .refine(?_:(if p.1∈l2.map (·.1) then s p.1 else st p.1)=_);exact D (sI (iD hp)) ((h.ZT p (gU _ hp)).1)
noncomputable abbrev AX(st:LH)(a g d ls:sE)(G:Gm)(S:V SR):Prop:=st a=J (f4 383 d [Y g,Y ls])/\st ls=J (f1 (S.map λr=>Y r.ae))/\∀(q:M) r,S[q]?=J r->st r.ae=J (r.aM G q)/\st r.ia=J (f1 (nL (r.aJ.map G.it)))/\st r.a6=J (f8 r.ι)/\st r.aY=J (f1 (nL r.rs))
def AX.ar(h:AX s a g d c G S):=h.1
def AX.aB(h:AX s a g d c G S):=h.2.1
def AX.ay(h:AX s a g d c G S):=h.2.2
theorem AX.Zz(h:AX s a g d c G S)(l:Le s E):AX E a g d c G S:=
 ⟨l _ _ h.ar,l _ _ h.aB,λq r e=>D9 (h.ay q r e) λh1 h2 h3 h4=>⟨l _ _ h1,l _ _ h2,l _ _ h3,l _ _ h4⟩⟩
noncomputable def Zp.ZA(A:Ag)(n:M):uZ:=[J (Y A.ae),J (f0 n)]
noncomputable abbrev Xk(G:Gm)(A:Ag)(st:LH)(m:M)(n:M)(s:LH):Prop:=(∃S,sX st s (wR G A S [])/\BI G S n n/\n<=R S)/\m=32769 - n
def Xk.ex(h:Xk G gk E m i s):=h.1
def Xk.aA{n:M}(h:Xk G gk E m n s):=h.2
theorem BI.init(hr:0<R G.ZF)(hI:rn.aG=[(0,0)])(hJ:rn.aJ=[])(hx:rn.xs=[])(hs:rn.rs=[]):BI G [rn] 0 0:=by
 have h0:∀(q:M) x,([rn]:V SR)[q]?=J x->q=0/\x=rn:=λq x h=>by
  rw[mT]at h
  split at h
  .refine D (gv h) ?_;rename_i e;exact⟨e,H⟩
  .exact uH h
 have hk:uv G rn=[G.it (0,0)]:=by unfold uv;exact D hI H
 refine⟨λx hx=>?_,?_,(ti rn H hI),λq x h h1=>absurd (h0 q x h).1 h1,λq x h=>absurd h (iF _),λq x ø h=>?_,λq hq h1=>absurd (Nat.lt_one_iff.mp hq) h1⟩
 .rw[gJ]at hx;refine tj hx.symm ?_;exact D hk (D hI ⟨λp hp=>by rw[gJ]at hp;subst hp;exact⟨hr,gE _⟩,lY ..⟩)
 .exact u5 _
 ·(refine tj ((h0 q x h).2.symm) ?_)
  exact(uS hJ hx hs)
theorem Te{A:Ag}(h:GX E A.az G x)(hS:G.Sm)(hR:0<R G.ZF)(hc:CX E A.ai A.az d g G F)(O:sX E s (wR G A [] []))(k:∀a da S s',Le E s'->BI G S (R S) (R S)->AX s' a A.az da A.aE G S->(∀(q:M) r,S[q]?=J r->E r.ia=sD/\E r.aY=sD)->K (Y a) s'):yD [Y A.ae] s K:=by
 have hb:s A.ae=J (f4 425 A.af [Y A.az,Y A.ai,Y A.aE,Y A.au]):=O.Zu 2 H;have hx:=h.Zz O.le
 have e0:NX (pL (pN (pL (qC 169 ug (L.Zx 425 0 (U 0)) (pL (pG (f0 0)) (pL (pG (f0 0)) pK))) pK)) (pL (pG (f0 (-1))) pK)) [J (Y A.ae),sD] s [f2 (nL (([(0,0)]:V (M×M)).map G.it)),f0 (-1)]:=
  cE (rG (cE (rK (rH (Z H) (rT hb H)) (cK hx.hg) (cE rD (cE rD cF)) (Bi (r:=0) (dt:=0) hx hR)) cF) (gQ H)) (cE rD cF)
 refine Fv (dD (cT (Z (v:=Y A.ae) H _ ⟨cK hb,e0 _ (Gq O iU (gE _) λS n s O out=>sP ?_)⟩)))
 (refine yf (by
  rcases out with ⟨rfl,r,e,_⟩ | ⟨_,_,rn,e,h1,h2,h3,h4⟩
  .exact uH e
  .exact(wU rn e h1 h2 ⟨h3,h4⟩):∃rn,S=[rn]/\rn.aG=[(0,0)]/\rn.aJ=[]/\rn.xs=[]/\rn.rs=[]) λrn hS0 hI hJ r9=>xA r9 λhxs pc=>?_)
 have B:=BI.init hR hI hJ hxs pc;rw[<- hS0]at B;refine cI rD (sP (cJ (L.Do (loc:=Zp.ZA A) (z0:=0) (Xk G A E) ⟨(tC S O B (gE _)),H⟩ λm n s I=>(tW I.ex λS O B hn=>?_))));have hb:s A.ae=J (f4 425 A.af [Y A.az,Y A.ai,Y A.aE,Y A.au]):=O.Zu 2 H;refine(tC (b8 ((n:al)<(R S:M))) (rL (Z H) (rJ (cE (rH (Z H) (rT hb H)) cF) (by exact tj (gy .. : R (S.map λr=>Y r.ae)=R S) (sa (O.Zu 0 H)))) rX) (λq Kb hK=>?_) (λq=>?_))
 .have q:n<R S:=g8.mp (sQ q);have hr:=gM q;generalize S[n]=r at hr;have sB:(S.map λr=>Y r.ae)[n]?=J (Y r.ae):=by refine D (gG) (D hr ?_);rfl
  refine dD (cT (Z (v:=Y A.ae) H _ ⟨cK hb,cC (rE (v:=Y r.ae) (rH (Z H) (rT hb H)) (Z H) (r5 (O.Zu 0 H) sB) _ (cH (Q1 h hS hc O B hr λS' s O B' hle=>sP ?_)))⟩));exact cI (rE (Z H) rD rU) (sP (hK .next _ _ (vA (n+1) H (32769 - (n+1)) (by exact D I.aA (uy [1,32769] 0xa40942131401184200980400443 H (gO (tD [1025,1,32769] 0x41084a0090850840120403 H (B.len hS) q)) (gO (tD [1,32769] 0x84a1204200940400442 H (gO (tD [1025,1,32769] 0x41084a0090850840120403 H (B.len hS) q)))))) ⟨(tC S' O B' (uy [1] 0x28024004853040620423 H q hle)),H⟩)))
 .have q:n=R S:=by have:=sW q;lia
  subst q;refine cJ (cZ (dS O (cE (rH (Z H) (rT hb H)) (cE (rH (Z H) (rT hb H)) cF)) λa da s O=>Ew (cS O 0 H (Z H) (Z H) (gE _) λs O=>(cS O 0 H (Z H) (Z H) (gC 1) λs O=>⟨H,?_⟩))));refine k a da S s O.le B ⟨O.Zu 0 H,O.Zu 1 H,λq r hr=>(AV ?_ ?_ ?_ ?_)⟩ λq r hr=>⟨?_,?_⟩
  .exact O.Zu (4*q+0+3+1) (show(wR G A S [])[4*q+0+3]?=_ from vx (k:=0) hr (by decide))
  .exact O.Zu (4*q+1+3+1) (show(wR G A S [])[4*q+1+3]?=_ from vx (k:=1) hr (by decide))
  .exact O.Zu (4*q+2+3+1) (show(wR G A S [])[4*q+2+3]?=_ from vx (k:=2) hr (by decide))
  .exact O.Zu (4*q+3+3+1) (show(wR G A S [])[4*q+3+3]?=_ from vx (k:=3) hr (by decide))
  .exact O.fr (4*q+1+3+1) (show(wR G A S [])[4*q+1+3]?=_ from vx (k:=1) hr (by decide))
  .exact O.fr (4*q+3+3+1) (show(wR G A S [])[4*q+3+3]?=_ from vx (k:=3) hr (by decide))
theorem Tf(h:GX E g G x)(hS:G.Sm)(hR:0<R G.ZF)(k:∀a da ls S s',Le E s'->BI G S (R S) (R S)->AX s' a g da ls G S->(∀(q:M) r,S[q]?=J r->E r.ia=sD/\E r.aY=sD)->K (Y a) s'):JO [Y g] E K:=by
 refine P6 (cZ (cT (dS (sX.init E) (cE (Z H) cF) λa da s O=>GC (cS O 0 H (Z H) (Z H) (gE _) λs O=>(cY (dS O (cE (Z H) cF) λc dc s O=>IE h hS O λlc lf s hlc O=>⟨H,tS O 2 H (Z H) (gC 1) λs O=>?_⟩))))));refine⟨by decide,λcs Tl=>tS (O.new (o:=f1 []) Tl) 3 H (Z H) (gC 2) λs O=>?_⟩;refine λcn E_=>tS (O.new (o:=f8 []) E_) 4 H (Z H) (gC 3) λs O=>⟨H,?_⟩
 have O:sX E s ([(cs,f1 []),(cn,f8 []),(a,f4 425 da [Y g,Y c,Y cs,Y cn])]++[(lf,f1 (rM (R G.ZH) λX=>f0 (lc X:M))),(c,f4 306 dc [Y g,Y lf])]):=by
  exact O.perm ((l8 ..).trans (md _ (md _ (lJ (l₁:=[(lf,f1 (rM (R G.ZH) λX=>f0 (lc X:M))),(c,f4 306 dc [Y g,Y lf])]) (l₂:=[(a,f4 425 da [Y g,Y c,Y cs,Y cn])])))))
 refine tW O.rebase λZV hle O2 hm=>⟨cK (O2.Zu 2 H),(Te (A:=⟨a,g,cs,cn,c,da,[],[]⟩) (h.Zz hle) hS hR ⟨hm _ (gH _ gI),hm _ gI,hlc⟩ O2 λa da S s' l B X fr=>k a da cs S s' (hle.trans l) B X λq r hr=>⟨((sX.init E).Zz hle).none (fr q r hr).1,((sX.init E).Zz hle).none (fr q r hr).2⟩)⟩
noncomputable def Pn:sF M->LV
 | none=>f0 (-1)
 | some n=>f0 (n:M)
noncomputable def SR.go(r:SR)(X:M):sF M:=if X∈r.xs then J (r.aQ X) else sD
noncomputable def vn(S:V SR)(q X:M):sF M:=(S[q]?).bind λr=>r.go X
noncomputable def xo(S:V SR):M->V M->sF M
 | q,[]=>J q
 | q,X::l=>(vn S q X).bind λp=>xo S p l
theorem Bm:vn S i X=J t<->∃r,S[i]?=J r/\X∈r.xs/\r.aQ X=t:=by
 unfold vn SR.go
 constructor
 .intro h;refine s9 (kB.mp h) λr h1 h2=>?_
  split at h2
  .rename_i hm;exact(tC r h1 hm (gv h2))
  .exact uH h2
 .rintro ⟨r,h1,h2,h3⟩
  refine D h1 (?_:(if X∈r.xs then J (r.aQ X) else sD)=_);exact D (sI h2) (D h3 H)
theorem D3{S:V SR}{X:M}:∀{l:V M} {q:M},xo S q (l++[X])=(xo S q l).bind λp=>vn S p X
 | [],q=>by
  refine(?_:(vn S q X).bind (λp=>J p)=vn S q X);cases vn S q X<;>rfl
 | sC::l,q=>by
  refine(?_:(vn S q sC).bind _=((vn S q sC).bind _).bind _);cases vn S q sC with
  | none=>rfl
  | some p=>exact D3 (l:=l)
noncomputable abbrev x4(G:Gm)(S:V SR):Prop:=BI G S (R S) (R S)
theorem BI.exp(B:x4 G S)(h:S[i]?=J r'):Jd G S r'/\VP G r':=B.ex i r' (gB.mp h).1 h
theorem BI.ġ(B:x4 G S)(h:vn S i X=J t):t<R S:=by
 exact WJ t (Bm.mp h) λr h1 h2=>s9 ((B.exp h1).1.aQ X h2) λr' h3 ø=>(gB.mp h3).1
theorem Tg(hn:r'.xs.Nodup)(X:M):((v5 r'.ι (f0 (X:M))).getD (f0 (-1)))=Pn (r'.go X):=by
 unfold SR.ι SR.go
 by_cases h:X∈r'.xs
 .exact D (J9 (key:=id) (val:=λX=>f0 (r'.aQ X:M)) (xs:=r'.xs) (D (jL _) hn) h) (D (sI h) H)
 .exact D (Ka (key:=id) (D (jL _) h)) (D (sH h) H)
theorem Kd(B:x4 G S)(h:AX s a g d c G S)(hq:i<R S):Op (uW [Y a,f0 i,f0 X]) s (Pn (vn S i X)):=λKE k=>by
 have hr:=gM hq;generalize S[i]=r at hr;have e:vn S i X=r.go X:=by unfold vn;exact D hr H
 refine D9 (h.ay i r hr) λh1 ø h3 ø=>?_
 have sB:(S.map λr=>Y r.ae)[i]?=J (Y r.ae):=by refine D (gG) (D hr ?_);rfl
 refine Ez (cZ (cT (rE (v:=Y r.ae) (rH (Z H) (rT h.ar H)) (Z H) (r5 h.aB sB) _ ⟨cK h1,cC (cG H (cH (GD (cJ (cZ (dA (rH (v:=Y r.a6) (Z H) (rT h1 H) _ ⟨ef h3,cC (cG H (cC (dh (cH ?_))))⟩)))))))⟩)));exact(zi _ _ _ _ H h3 (.int BS) (D (Tg (B.exp hr).1.nd _) (tj e k)))
noncomputable def Zq.ZA(a:sE)(q:M)(t:V M)(z:sF M×sF LV):uZ:=[J (Y a),J (f0 q),J (f2 (nL t)),J (Pn z.1),z.2]
theorem VT(B:x4 G S)(h:AX E a g d c G S)(hq:m<R S){t:V M}:Op (xU [Y a,f0 m,f2 (nL t)]) E (Pn (xo S m t)):=λKE k=>by
 refine EJ (cI (v:=Pn (J m)) (Z H) (sP (cJ (dV (loc:=Zq.ZA a m t) (z0:=(J m,sD)) (λi z s=>s=E/\(z.1.bind λp=>xo S p (t.drop i))=xo S m t/\∀p,z.1=J p->p<R S) (Z H) (uS H (by exact D jm H) (λp e=>by exact tj (gv e) hq)) (λi v z s K' hv I hK=>?_) λz s I=>?_))))
 .obtain ⟨rfl,I,hp⟩:=I
  (refine s9 (wa hv) λX hX e9=>D e9 ?_)
  obtain ⟨hi,e⟩:=gB.mp hX;rw[jk hi,e]at I;obtain ⟨o,y⟩:=z;cases o with
  | none=>
   rw[<- I]at k;exact cL (t:=pH) (rL (Z H) rD (rZ (p:=-1) (q:=-1))) (λø=>cJ (cP rD (hK (.ret _) _ _ k))) λm=>tf m
  | some p=>
   exact cL (t:=b8 (((p:M):al)=-1)) (rL (Z H) rD rZ) (λm=>by have:=sQ m;lia) λø=>sP (cJ (cI (rK (Z H) (cK h.ar) (cE (Z H) (cE (Z H) cF)) (Kd B h (hp p H))) (sP (hK .next _ _ ⟨(vn S p X,J (f0 X)),H,H,I,λp' e=>B.ġ e⟩))))
 .obtain ⟨rfl,I,hp⟩:=I;rw[sU,l5]at I;have e:z.1=xo S m t:=by refine tj I ?_;cases z.1<;>rfl
  rw[<- e]at k;exact sP (cP (Z H) k)
noncomputable def Oa(tc q:M)(xs:V M):V (M×M):=(xs.filter λX=>decide (tc<=X)).map λX=>(q,X)
noncomputable def vW(tc:M):M->V SR->V (M×M)
 | _,[]=>[]
 | q,r::S=>Oa tc q (um r.xs)++vW tc (q+1) S
theorem LW:vW i t (r'::S)=Oa i t (um r'.xs)++vW i (t+1) S:=H
theorem Xl:vW i t []=[]:=H
noncomputable def pT(p:M×M):LV:=f2 [f0 p.1,f0 p.2]
noncomputable def Th(T:V (M×M)):V (LV×LV):=dT (λp:(M×M)×M=>[p.1.1,p.1.2]) (λp=>f0 p.2) T.zipIdx
theorem Ti:p∈Oa i t (um r0.xs)<->∃r,p.1=t+0/\(r0::S)[0]?=J r/\p.2∈r.xs/\i<=p.2:=
 gL.trans ⟨λh=>s9 h λX hX e=>tj e (xA (iH.mp hX) λh1 h2=>⟨r0,H,H,(tE _).mem_iff.mp h1,sQ h2⟩),λh=>yf h λr e1 e2 h3 h4=>⟨p.2,iH.mpr ⟨(tE _).mem_iff.mpr (D (gv e2) h3),sM h4⟩,ji e1.symm rfl⟩⟩
theorem G7:p∈vW i t S<->∃q r,p.1=t+q/\S[q]?=J r/\p.2∈r.xs/\i<=p.2:=by
 induction S generalizing t with
 | nil=>exact⟨λh=>uG h,λh=>t8 h λq r ø h ø=>z9 h⟩
 | cons r0 S ih=>
  refine Iff.trans ?_ Zc.symm;exact gP.trans (or_congr Ti (ih.trans (exists_congr λq=>exists_congr λr=>and_congr_left λø=>iff_of_eq (sJ (p.1 = ·) (nh t 1 q)))))
theorem Ob{tc:M}:∀{S T:V SR} {b:M},vW tc b (S++T)=vW tc b S++vW tc (b+R S) T
 | [],_,_=>rfl
 | r::S,T,b=>by (refine D mh ?_;rewrite[LW,LW];refine D Ob ?_;rewrite[gW];exact D (show b+1+R S=b+R (r::S) by exact D iu (gZ (tD [1] 0x25010050048000481 H) (tD [1] 0x1401200000940400481 H))) H)
theorem Q2{tc:M}:∀{S:V SR} {b:M},(∀r∈S,r.xs.Nodup)->(vW tc b S).Nodup
 | [],_,_=>iU
 | r::S,b,h=>by
  rw[LW];refine iP.mpr (uS ?_ (Q2 λr hr=>h r (gH _ hr)) (λp hp q hq e=>?_))
  .unfold Oa;refine jV.mpr ((((tE _).nodup_iff.mpr (h r gI)).filter _).imp λ{a c} Z0 (e:(b,a)=(b,c))=>Z0 ?_);cases e;rfl
  ·(refine s9 (gL.mp hp) λX ø e9=>?_;subst e9)
   obtain ⟨q',r',h1,_⟩:=G7.mp hq;rw[<- e]at h1;exact(KP [1] 0xa00900020461 H (h1:b=b+1+q')).elim
theorem Oc{tc B:M}:∀{S:V SR} {b:M},(∀r∈S,R r.xs<=B)->R (vW tc b S)<=R S*B
 | [],_,_=>gE _
 | r::S,b,h=>by
  have h1:=Oc (tc:=tc) (b:=b+1) λr hr=>h r (gH _ hr)
  have h2:R (Oa tc b (um r.xs))<=B:=by
   exact D (gy _) (gA (jb ..) (by exact D ((tE _).length_eq) (h r gI)))
  (rewrite[LW];refine D gK (D iu (D (ko _ _) ?_)));exact Dp [] 0x7300a4004872040628403 H h1 h2
theorem Od:I.zipIdx.map (λp=>[p.1.1,p.1.2])=I.map λp=>[p.1,p.2]:=by
 have e:=sJ (List.map λp:M×M=>[p.1,p.2]) (BU I);rw[iS]at e;exact e
theorem Xm(h:I.Nodup):(I.zipIdx.map (λp=>[p.1.1,p.1.2])).Nodup:=by
 refine D Od (jV.mpr (h.imp λ{a b} Z0 e=>Z0 ?_));cases a;cases b;cases e;rfl
theorem VU:[p.1,p.2]∈I.zipIdx.map (λp=>[p.1.1,p.1.2])<->p∈I:=
 D Od (AU gL ⟨λZN=>s9 ZN λq h e=>by cases q;cases p;cases e;exact h,λh=>⟨p,h,H⟩⟩)
theorem Q3:Th (I++[p])=Th I++[(pT p,f0 (R I:M))]:=by
 unfold Th dT;exact D o5 (D gF (D (iB _) H))
theorem LY(h:w[j]?=J X):Oa i t (w.take (j+1))=Oa i t (w.take j)++if i<=X then [(t,X)] else []:=by
 unfold Oa;refine D (tF h) (D (jS _ _) (D gF ?_))
 congr 1
 by_cases e:i<=X
 .exact D (sI e) (D (l7 (by simpa using e)) H)
 .exact D (sH e) (D (l6 (by simpa using e)) H)
theorem BI.xl(hS:G.Sm)(B:x4 G S)(hr:r'∈S):R r'.xs<=8/\∀X∈r'.xs,X<R G.ZH:=by
 refine xE (ie hr) λq hq=>?_
 refine xA (B.exp hq) λam F=>?_
 have h:∀X∈r'.xs,X<R G.ZH:=λX hX=>by
  exact s9 ((F X).mp hX) λp hp e=>hS.ZT (am.o0.ok p hp).ao e
 have:=tP (m:=gN (R G.ZH)) am.nd λX hX=>iM.mpr (h X hX)
 rw[iq]at this;exact⟨gA this hS.n,h⟩
theorem BI.bA(hS:G.Sm)(B:x4 G S){tc b:M}:R (vW tc b (S.take i))<=262152:=
 gA (Oc (B:=8) λr hr=>(B.xl hS (jC hr)).1) (D iA (gA (kA 8 (iT _ _)) (tY [1025,8,262152] 0x2090230900122002 H (B.len hS))))
noncomputable def XW.ZA(A:Ag)(z:sF LV×sF LV):uZ:=[J (Y A.ae),J (Y A.az),z.1,z.2]
noncomputable def H8(e d a nu tr ix:sE)(T:V (M×M))(l:V (sE×LO)):V (sE×LO):=(e,f4 500 d [Y a,Y nu,Y tr,Y ix])::(ix,f8 (Th T))::(tr,f1 (T.map pT))::l
theorem CW(h:GX E g G x)(hS:G.Sm)(B:x4 G S)(hA:AX E a g da ad G S)(O:sX E s (H8 Cl d a nu f fm [] pre))(k:∀s',sX E s' (H8 Cl d a nu f fm (vW G.aa 0 S) pre)->K .none s'):tX [Y Cl] s K:=by
 refine xe (cI (v:=Y g) (rH (rH (Z H) (rT (O.Zu 0 H) H)) (rT (O.le _ _ hA.ar) H)) (sP (cJ (dq (loc:=XW.ZA ⟨Cl,g,0,0,0,0,[],[]⟩) (z0:=(sD,sD)) (λi z s=>sX E s (H8 Cl d a nu f fm (vW G.aa 0 (S.take i)) pre)) (rH (rH (Z H) (rT (O.Zu 0 H) H)) (rT (O.le _ _ hA.ar) H)) (λi z s O=>O.le _ _ hA.aB) O (λi v z s K' hv O hK=>?_) λz s O=>sP (k s ?_)))))
 .rw[gG]at hv;refine vp v (gR.mp hv) λr hr=>xA (B.exp hr) λam F=>xA (B.xl hS (gz hr)) λē TI=>D9 ((hA.Zz O.le).ay i r hr) λh1 ø h3 ø=>?_
  have hTi:∀j,R (Oa G.aa i ((um r.xs).take j))<=8:=λj=>by
   exact D (gy _) (gA (jb ..) (gA (jW ..) (by exact D (tE r.xs).length_eq ē)))
  refine dE (cX (cO (cC (rH (v:=Y r.a6) (Z H) (rT h1 H) _ (cH (yq (ns:=r.xs) (jL r.xs▸Kc (key:=id) h3) (tY [8,64] 0x4240940120402 H ē) (RL.ZC O λc s O=>(yR (loc:=XW.ZA ⟨Cl,g,0,0,0,0,[],[]⟩) (z0:=(J (Y r.ae),z.2)) (λj z s=>z.1=J (Y r.ae)/\sX E s ((c,f1 (nL (um r.xs)))::H8 Cl d a nu f fm (vW G.aa 0 (S.take i)++Oa G.aa i ((um r.xs).take j)) pre)) (λj z s O=>O.2.Zu 0 H) ⟨H,by exact D (show Oa G.aa i ((um r.xs).take 0)=[] from H) (D (gY _) O)⟩ (λj v z s K1 hv I ZW=>?_) λz s I=>sP ?_))))))))
  .refine xA I λhz O=>Bt v (wa hv) λX hX=>?_
   obtain ⟨z1,z2⟩:=z;subst (hz:z1=J (Y r.ae));have Ŭ:R (vW G.aa 0 (S.take i)++Oa G.aa i ((um r.xs).take j))<=262160:=by refine D gK ?_;have:=hTi j;exact tD [262152,8,262160] 0x4129001204250800120403 H (B.bA hS (i:=i) (tc:=G.aa) (b:=0)) this
   generalize hT:vW G.aa 0 (S.take i)++Oa G.aa i ((um r.xs).take j)=T at O Ŭ;refine cL (rN (rS (rK (Z H) (cK (h.Zz O.le).hg) (cE (Z H) cF) (vP (h.Zz O.le))))) (λq=>?_) λq=>sP ?_
   .have q:G.aa<=X:=by simp at q;exact tD [] 0x52048520402 H q
    have UF:(i,X)∉T:=by
     refine tj hT (AU gP ?_)
     rintro (hm | hm)
     .refine t8 (G7.mp hm) λq' r' e1 e2 ø=>?_
      have:=(gB.mp e2).1;rw[iA]at this;exact iV _ (ij this (gA (jK _ _) (i5 (e1.trans (iB _)))))
     .unfold Oa at hm;refine s9 (gL.mp hm) λsC hY Cl=>?_
      cases Cl;exact yp hX ((tE r.xs).nodup_iff.mpr am.nd) (iH.mp hY).1
    refine cJ (rJ (v:=f0 (R T:M)) (cE (rH (Z H) (rT (O.Zu 1 H:s Cl=J (f4 500 d [Y a,Y nu,Y f,Y fm])) H)) cF) (tj (by exact D (gy _) H:(R (T.map pT):al)=(R T:M)) (sa (O.Zu 3 H:s f=J (f1 (T.map pT))))) _ (rH (v:=Y fm) (Z H) (rT (O.Zu 1 H:s Cl=J (f4 500 d [Y a,Y nu,Y f,Y fm])) H) _ ((cW (rH (Z H) (rT (((hA.Zz O.le).ay i r hr).1) H)) (Z H):Ev (pN (pL (L.Zx 264 0 (U 2)) (pL (U 3) pK))) ((XW.ZA ⟨Cl,g,0,0,0,0,[],[]⟩ (J (Y r.ae),z2)).set 3 (J (f0 (X:M)))) s (pT (i,X))) _ ?_)));have e3:=xZ (y:=f0 (R T:M)) (X:=[i,X]) (key:=λp:(M×M)×M=>[p.1.1,p.1.2]) (O.Zu 2 H) (D o8 (tY [262160,10000000] 0x4240900120402 H Ŭ)) (λhm=>UF (VU.mp hm));change qA s (Y fm) (pT (i,X)) _=J (ur s fm (f8 (Th T++[(pT (i,X),f0 (R T:M))]))) at e3;refine(ti _ e3 (tj Q3 ?_));have O:=O.set 2 H (f8 (Th (T++[(i,X)])));generalize ur s fm (f8 (Th (T++[(i,X)])))=s at O;refine cU O 3 H (rH (Z H) (rT (O.Zu 1 H:s Cl=J (f4 500 d [Y a,Y nu,Y f,Y fm])) H)) (cW (rH (Z H) (rT (((hA.Zz O.le).ay i r hr).1) H)) (Z H):Ev (pN (pL (L.Zx 264 0 (U 2)) (pL (U 3) pK))) ((XW.ZA ⟨Cl,g,0,0,0,0,[],[]⟩ (J (Y r.ae),z2)).set 3 (J (f0 (X:M)))) s (pT (i,X))) (D (gy _) (tY [262160,16777215] 0x4240900120402 H Ŭ)) λs O=>ZW .next _ _ (tC (J (Y r.ae),J (f0 (X:M))) H rfl ?_)
    (refine D (LY hX) (D (sI q) ?_);rewrite[<- gW];refine D hT ?_)
    unfold H8;exact D gF O
   .have q:¬ G.aa<=X:=by simp at q;exact tD [] 0x52040428422 H q
    exact ZW .next _ _ (tC (J (Y r.ae),J (f0 (X:M))) H rfl (D (LY hX) (D (sH q) (D (gY _) (D hT O)))))
  .refine xA I λø O=>?_
   rw[sU,ic]at O;refine hK .next _ _ (ti z H ?_)
   (refine D (tF hr) (D Ob (D iA (D (iO (iG ((gB.mp hr).1)):min i (R S)=i) (D (iB _) ?_))));rewrite[LW,Xl];refine D (gY _) ?_)
   exact O.tail
 .have O:sX E s (H8 Cl d a nu f fm (vW G.aa 0 (S.take (R (S.map λr=>Y r.ae)))) pre):=O;rw[gy,ic]at O;exact O
noncomputable def Je(rd:V (sE×V M)):V (sE×LO):=rd.map λq=>(q.1,f1 (nL q.2))
noncomputable def EZ(rd:V (sE×V M)):V LV:=rd.map λq=>Y q.1
noncomputable abbrev UY(G:Gm)(S:V SR)(T:V (M×M))(q:M)(m:M)(row:V M):Prop:=(∀t,m.testBit t=pH->t<G.aa/\∃r,S[q]?=J r/\t∈r.xs)/\∀j∈row,∃sC,Gl G sC/\T[j]?=J (q,sC)
def UY.aA(h:UY G S I i m w):=h.1
def UY.ao(h:UY G S I i m w):=h.2
noncomputable abbrev Oe(G:Gm)(S:V SR)(T:V (M×M))(i:M)(dm:V M)(rd:V (sE×V M)):Prop:=R dm=i/\R rd=i/\∀(i':M) p m (a:sE) row,T[i']?=J p->dm[i']?=J m->rd[i']?=J (a,row)->∃q,vn S p.1 p.2=J q/\UY G S T q m row
def Oe.bj{rd:V (sE×V M)}(h:Oe G S I i w rd):=h.1
def Oe.bk{rd:V (sE×V M)}(h:Oe G S I i w rd):=h.2.1
def Oe.ay{rd:V (sE×V M)}(h:Oe G S I i w rd):=h.2.2
theorem Oe.snoc{rd:V (sE×V M)}(h:Oe G S I i w rd)(hp:I[i]?=J p)(hg:vn S p.1 p.2=J t)(hR:UY G S I t m ts):Oe G S I (i+1) (w++[m]) (rd++[(a,ts)]):=by
 refine⟨by exact D gK (D h.bj H),by exact D gK (D h.bk H),λi' p' m' a' Y? h1 h2 h3=>?_⟩;refine(iZ i' i).elim (λhi=>?_) λhi=>?_
 .rw[hV (D h.bj hi)]at h2;rw[hV (D h.bk hi)]at h3;exact h.ay i' p' m' a' Y? h1 h2 h3
 .have e:i'=i:=by
   have:=(gB.mp h2).1;rw[gK,h.bj]at this;exact gZ (tD [1] 0x29024004a020422 H (this:i'<i+1)) (tD [] 0x42848428402 H hi)
  subst e;rw[<- h.bj,il (gC _),iI]at h2;rw[<- h.bk,il (gC _),iI]at h3;refine tj (gv h2) ?_;cases h3;refine tj (gv (hp.symm.trans h1)) ?_;exact(ti t hg hR)
noncomputable abbrev LX(st:LH)(G:Gm)(S:V SR)(nu tr ix:sE):Prop:=st nu=J (f1 (D0 G))/\st tr=J (f1 ((vW G.aa 0 S).map pT))/\st ix=J (f8 (Th (vW G.aa 0 S)))
def LX.a7(h:LX s G S nu a g):=h.1
def LX.aZ(h:LX s G S nu a g):=h.2.1
def LX.bB(h:LX s G S nu a g):=h.2.2
theorem LX.Zz(h:LX s G S nu a g)(l:Le s E):LX E G S nu a g:=⟨l _ _ h.a7,l _ _ h.aZ,l _ _ h.bB⟩
theorem Xn(B:x4 G S):(vW G.aa 0 S).Nodup:=Q2 λr hr=>by
 refine xE (ie hr) λq hq=>?_
 exact(B.exp hq).1.nd
theorem Of(h:LX s G S nu a g)(B:x4 G S)(hr:S[i]?=J r')(hX:X∈r'.xs)(ht:G.aa<=X):∃j,(vW G.aa 0 S)[j]?=J (i,X)/\Op (qi (Y g) (f2 [f0 i,f0 X])) s (f0 (j:M)):=by
 refine xE (ie (G7.mpr (uY i r' ((iB i).symm) hr hX ht):(i,X)∈vW G.aa 0 S)) λj hj=>?_
 exact(ti j hj (dO (key:=λp:(M×M)×M=>[p.1.1,p.1.2]) (q:=((i,X),j)) h.bB (Xm (Xn B)) (mM.mpr hj)))
theorem Q4(h:(vW G.aa 0 S)[i]?=J p):∃r,S[p.1]?=J r/\p.2∈r.xs/\G.aa<=p.2/\vn S p.1 p.2=J (r.aQ p.2):=by
 refine vS (G7.mp (gz h)) λq r h1 h2 h3 h4=>?_
 rw[iB]at h1;exact(wU r (D h1 h2) h3 h4 (Bm.mpr (tC r (D h1 h2) h3 H)))
noncomputable def Jf(e d a nu tr ix di re:sE)(dm:V M)(rd:V (sE×V M))(l:V (sE×LO)):V (sE×LO):=(e,f4 500 d [Y a,Y nu,Y tr,Y ix,Y di,Y re])::(di,f1 (nL dm))::(re,f1 (EZ rd))::(Je rd++l)
noncomputable def Zr.ZA(A:Ag)(p:M×M)(q:M)(c w:sE)(z:M×sF LV):uZ:=[J (Y A.ae),J (Y A.az),J (f0 p.1),J (f0 p.2),J (f0 q),J (f0 z.1),J (Y w),J (Y c),z.2]
theorem Ke(h:GX E g G x)(hS:G.Sm)(B:x4 G S)(hA:AX E a g da ad G S)(hL:LX E G S nu fm c8)(O:sX E s (Jf Cl d a nu fm c8 c2 cr [] [] pre))(k:∀dm rd s',Oe G S (vW G.aa 0 S) (R (vW G.aa 0 S)) dm rd->sX E s' (Jf Cl d a nu fm c8 c2 cr dm rd pre)->K .none s'):uN [Y Cl] s K:=by
 have he:=O.Zu 0 H;have hT:R (vW G.aa 0 S)<=262152:=by have:=B.bA hS (i:=R S) (tc:=G.aa) (b:=0);rw[ic]at this;exact this
 refine Az (cI (v:=Y g) (rH (rH (Z H) (rT he H)) (rT (O.le _ _ hA.ar) H)) (sP (cJ (dM (loc:=λ(z:sF LV×sF LV×sF LV×sF LV×sF LV×sF LV×sF LV)=>[J (Y Cl),J (Y g),z.1,z.2.1,z.2.2.1,z.2.2.2.1,z.2.2.2.2.1,z.2.2.2.2.2.1,z.2.2.2.2.2.2]) (z0:=(sD,sD,sD,sD,sD,sD,sD)) (λi z s=>∃dm rd,Oe G S (vW G.aa 0 S) i dm rd/\sX E s (Jf Cl d a nu fm c8 c2 cr dm rd pre)) (rH (Z H) (rT he H)) (λi z s ZN=>vX ZN λø ø ø O=>O.le _ _ hL.aZ) ⟨[],[],⟨H,H,λi' p m a row ø h=>uH h⟩,O⟩ (λi v z s K' hv I hK=>?_) λz s I=>?_))))
 .refine vX I λdm rd P O=>?_
  rw[gG]at hv;refine vp v (gR.mp hv) λp hp=>(w1 _ _ H (yf (Q4 hp) λr0 np H' ht0 Id=>?_))
  have hi:=(gB.mp hp).1;have he:=O.Zu 0 H;have ť:=hA.Zz O.le;have cg:=Kd (X:=p.2) B ť (gB.mp np).1;rw[Id]at cg;generalize r0.aQ p.2=q at Id cg;have hql:=B.ġ Id;have hr:=gM hql;generalize S[q]=r at hr;refine xA (B.xl hS (gz hr)) λē TI=>?_
  have sB:(S.map λr=>Y r.ae)[q]?=J (Y r.ae):=by refine D (gG) (D hr ?_);rfl
  refine cI (v:=f0 (q:M)) (rK (rH (Z H) (rT he H)) (cK (O.le _ _ hA.ar)) (cE (Z H) (cE (Z H) cF)) cg) (sP (cJ (cI rD (sP (dC O λw s O=>?_)))));have ť.aB:=(hA.Zz O.le).aB;refine D9 ((hA.Zz O.le).ay q r hr) λh1 ø h3 ø=>cI (v:=Y r.a6) (rH (rE (rH (rH (Z H) (rT (O.Zu 1 H) H)) (rT (O.le _ _ hA.ar) H)) (Z H) (r5 ť.aB sB)) (rT h1 H)) (sP (dE (cX (cO (cC (cG H (cH (yq (ns:=r.xs) (jL r.xs▸Kc (key:=id) h3) (tY [8,64] 0x4240940120402 H ē) (RL.ZC O λc s O=>(yR (loc:=Zr.ZA ⟨Cl,g,0,0,0,0,[],[]⟩ p q r.a6 w) (z0:=(0,z.2.2.2.2.2.2)) (λj z s=>∃row,R row<=j/\UY G S (vW G.aa 0 S) q z.1 row/\sX E s ((c,f1 (nL (um r.xs)))::(w,f1 (nL row))::Jf Cl d a nu fm c8 c2 cr dm rd pre)) (λj z s ZN=>tW ZN λø ø ø O=>O.Zu 0 H) ⟨[],gC _,⟨λt ht=>(by rw[kO]at ht;exact ft ht),λj h=>uG h⟩,O⟩ (λj v z s K1 hv I ZW=>?_) λz s I=>sP ?_))))))))))
  .refine tW I λrow Z2 bi O=>Bt v (wa hv) λsC hY=>?_
   have Ĳ:sC∈r.xs:=(tE r.xs).mem_iff.mp (gz hY);refine cL (rS (rK (Z H) (cK (h.Zz O.le).hg) (cE (Z H) cF) (vP (h.Zz O.le)))) (λhq=>?_) λhq=>?_
   .have hq:sC<G.aa:=g8.mp (sQ hq);refine cI (v:=f0 (z.1|||2 ^ sC:M)) (rE (Z H) (rE rD (Z H) (sq (gA (iG (TI sC Ĳ)) (gA hS.n (by decide))))) sj) (sP (sP (ZW .next _ _ (xy (z.1|||2 ^ sC,J (f0 sC)) H row (lF Z2) ⟨λt ht=>?_,bi.ao⟩ O))));rw[jt,jo,mS,u2]at ht
    rcases ht with ht | rfl
    .exact bi.aA t ht
    .exact⟨hq,(ti r hr Ĳ)⟩
   .refine cL (t:=vU G sC) (rS (rE (rH (Z H) (rT (O.Zu 2 H) H)) (Z H) (r5 ((hL.Zz O.le).a7) (ux (f:=λX=>ii (vU G X)) (TI sC Ĳ))))) (λhb=>?_) λhb=>?_
    .refine s9 (Of (hL.Zz O.le) B hr Ĳ (jv.mp λh=>sW hq (g8.mpr h):G.aa<=sC)) λj' Gc op=>cU O 1 H (Z H) (rE (rH (Z H) (rT (O.Zu 2 H) H)) (cW (Z H) (Z H)) op) (D (sU _) (uy [8,16777215] 0x424090a6084c40800128404 H (by exact D (tE r.xs).length_eq ē:R (um r.xs)<=8) Z2 ((gB.mp hY).1))) λs O=>?_
     rw[wQ]at O;refine sP (ZW .next _ _ (xy (z.1,J (f0 sC)) H (row++[j']) (D gK (jO Z2)) ⟨bi.aA,λt ht=>?_⟩ O))
     rcases gP.mp ht with ht | ht
     .exact bi.ao t ht
     .rw[gJ]at ht;exact(ti sC (wq.mp hb) (ht▸Gc))
    .exact sP (ZW .next _ _ (xy (z.1,J (f0 sC)) H row (lF Z2) bi O))
  .refine tW I λrow Z2 bi O=>?_
   have O:=O.tail;refine cU O 2 H (rH (Z H) (rT (O.Zu 1 H) H)) (Z H) (D (sU _) (uy [262152,16777215] 0x424090c4088a60840128404 H hT hi P.bj)) λs O=>cU O 3 H (rH (Z H) (rT (O.Zu 1 H) H)) (Z H) (by unfold EZ;exact D (gy _) (uy [262152,16777215] 0x424090c4088a60840128404 H hT hi P.bk)) λs O=>?_
   rw[wQ]at O;refine hK .next _ _ (Ir (_,_,_,_,_,_,_) H (dm++[z.1]) (ti (rd++[(w,row)]) (P.snoc hp Id bi) ?_));have e1:EZ (rd++[(w,row)])=EZ rd++[Y w]:=by unfold EZ;exact D gF H
   have e2:Je (rd++[(w,row)])=Je rd++[(w,f1 (nL row))]:=by unfold Je;exact D gF H
   unfold Jf;exact D e1 (D e2 (sX.perm (l:=[(w,f1 (nL row))]++([(Cl,f4 500 d [Y a,Y nu,Y fm,Y c8,Y c2,Y cr]),(c2,f1 (nL (dm++[z.1]))),(cr,f1 (EZ rd++[Y w]))]++(Je rd++pre))) O (G6 (kQ _))))
 .refine vX I λdm rd P O=>?_
  rw[gy]at P;exact k dm rd s P O
theorem Pg.step(h:Pg G X sC)(k:i=X\/Ch (Pg G) i X):Ch (Pg G) i sC:=k.elim (λe=>e▸.single h) λk=>.tail k h
theorem BI.open(B:x4 G S)(hr:S[i]?=J r')(hp:p∈r'.aJ)(hX:(G.Zv p.1)[p.2]?=J X)(ht:t<R G.ZF)(hl:G.ZE t=X):(t,0)∈r'.aJ:=by
 refine xA (B.exp hr) λam F=>(am.o0.iff (t,0)).mpr (.inr (uS H ht ?_))
 rcases (am.o0.iff p).mp hp with h | ⟨h1,h2,q0,Ps,X0,e0,h3⟩
 .exact(vA p h X hX (.inl hl))
 .rw[h1]at hX;exact(vA q0 Ps X0 e0 (.inr (Pg.step (tC p.1 h2 H (hl▸hX)) (h3.imp ky id))))
theorem BI.over(B:x4 G S)(hr:S[i]?=J r0)(hp:p∈r0.aJ)(hX:(G.Zv p.1)[p.2]?=J X):∃n r',X∈r0.xs/\vn S i X=J n/\S[n]?=J r'/\(p.1,p.2+1)∈r'.aG/\(p.1,p.2+1)∈r'.aJ:=by
 refine xA (B.exp hr) λam F=>?_
 have hx:=(F X).mpr (ti p hp hX);refine s9 (am.aQ X hx) λr' h1 h2=>?_
 have hm:(p.1,p.2+1)∈vZ G X r0.aJ:=Bk.mpr (tC p.2 H hp hX);refine s9 (gL.mp (D h2 ((tE _).mem_iff.mpr (iD hm)):G.it (p.1,p.2+1)∈uv G r')) λp' sn e=>?_
 rw[(dN (((B.ww r' (gz h1)).1) p' sn) (EW am.o0.ok hm) e)]at sn;exact(Jq (r0.aQ X) r' hx (Bm.mpr (tC r0 hr hx H)) h1 sn (((B.exp h1).1.o0.iff _).mpr (.inl sn)))
theorem BI.from(B:x4 G S)(hr:S[t]?=J rn)(hg:vn S t X=J i)(ZP:S[i]?=J r')(hp:p∈r'.aG):∃d,p.2=d+1/\(p.1,d)∈rn.aJ/\(G.Zv p.1)[d]?=J X:=by
 refine xA (B.exp hr) λam F=>tW (Bm.mp hg) λr0 h0 hx hm=>?_
 obtain rfl:=gv (hr.symm.trans h0);refine s9 (am.aQ X hx) λr1 h1 h2=>?_
 rw[hm,ZP]at h1;obtain rfl:=gv h1;have hk:G.it p∈uv G r':=iD hp;rw[h2]at hk;exact s9 (gL.mp ((tE _).mem_iff.mp hk)) λp' sn e=>Bk.mp ((dN (EW am.o0.ok sn) ((B.ww r' (gz ZP)).1 p hp) e)▸sn)
noncomputable def Nd(row:V M)(n:M):V M:=if n∈row then row else row++[n]
noncomputable def GO(us:M->V M)(X n:M):M->V M:=λi=>if i=X then Nd (us X) n else us i
theorem Q5:t∈Nd w i<->t∈w\/t=i:=by
 unfold Nd
 split
 .rename_i h;exact⟨.inl,λo=>o.elim id λe=>e▸h⟩
 .rw[gP,gJ]
theorem Tj(h:w.Nodup):(Nd w i).Nodup:=by
 unfold Nd
 split
 .exact h
 .rename_i hn
  exact iP.mpr (uS h (u5 _) (λa ha b hb e=>hn (by rw[gJ]at hb;exact hb▸e▸ha)))
noncomputable def x8(N:M)(P:M->M->Prop)(us:M->V M):Prop:=∀i,(us i).Nodup/\∀x∈us i,x<N/\P i x
theorem x8.add(h:x8 N P cj)(hn:t<N)(hP:P X t):x8 N P (GO cj X t):=λi=>by
 unfold GO
 by_cases e:i=X
 .subst e;exact D (sI H) ⟨Tj (h i).1,λx hx=>(Q5.mp hx).elim ((h i).2 x) λe=>e▸⟨hn,hP⟩⟩
 .exact D (sH e) (h i)
theorem x8.len(h:x8 N P cj)(i:M):R (cj i)<=N:=by
 have:=tP (m:=gN N) (h i).1 λx hx=>iM.mpr ((h i).2 x hx).1
 rw[iq]at this;exact this
noncomputable def u4(ua:V sE)(us:M->V M):V (sE×LO):=wg ua λi=>f1 (nL (us i))
theorem eD(hl:s l=J (f1 (nL w))):Op (ql pH (f0 i) (Y l)) s (ii (!b8 (i∈w))):=λK k=>by
 unfold ql;simp only[hl];refine(uS H (CT w) (D (t6.mpr M9:decide (f0 (i:al)∈nL w)=b8 (i∈w)) ?_));simpa using k
theorem D4{post:V (sE×LO)}{us:M->V M}(O:sX E s (pre++(u4 ua us++post)))(hb:ua[X]?=J a)(hz:R (us X)<=1000000)(k:∀s',sX E s' (pre++(u4 ua (GO us X t)++post))->K .none s'):zB [Y a,f0 t] s K:=by
 have hX:=(gB.mp hb).1;have hlen:R (u4 ua us)=R ua:=by unfold u4 wg;exact D oV H
 have Z6:(pre++(u4 ua us++post))[R pre+X]?=J (a,f1 (nL (us X))):=by
  refine D (il (jR ..)) (D (pf _ _) (D (hV (D hlen hX)) ?_));exact zV hb
 refine Lf (cL (rL (Z H) (Z H) (eD (O.Zu _ Z6))) (λq=>?_) λq=>?_)
 .refine cU O _ Z6 (Z H) (Z H) (D (sU _) (tY [1000000,16777215] 0x4240900120402 H hz)) λs O=>k s ?_
  rw[wQ,kj _ _ (jR ..),pf,mj _ _ (D hlen hX)]at O
  have e:(u4 ua us).set X (a,f1 (nL (us X++[t])))=u4 ua (GO us X t):=by
   refine D (FU hb _) (CR λsC ø=>?_);unfold GO Nd
   by_cases e:sC=X
   .exact D (sI e) (D (sI e) (D (sH (by simpa using q)) H))
   .exact D (sH e) (D (sH e) H)
  exact tj e O
 .have e:GO us X t=us:=by
   funext i
   unfold GO Nd
   by_cases e:i=X
   .exact D (sI e) (D (sI (by simpa using (by simpa using q):t∈us X)) (D e H))
   .exact D (sH e) H
  rw[e]at k;exact k s O
theorem LZ(hn:E nu=J (f1 (D0 G)))(he:E a=J (f4 500 d fs))(hf:fs[1]?=J (Y nu))(hr:∀X∈w,X<R G.ZH)(k:∀n:M,(∀i j sC,n<=i->i<j->w[j]?=J sC->Gl G sC)->K (f0 n) E):vJ [Y a,f2 (nL w)] E K:=by
 refine A8 (cI (v:=f0 (R w:M)) (rJ (cE (Z H) cF) (tj (by exact D (sU _) H:(R (nL w):al)=(R w:M)) sb)) (sP (L.Do (loc:=λn:M=>[J (Y a),J (f2 (nL w)),J (f0 n)]) (z0:=R w) (λm n s=>s=E/\m=n/\n<=R w/\∀j sC,n<=j->w[j]?=J sC->Gl G sC) (AV H rfl (gC _) (λj sC h a=>by rw[iz h]at a;exact uH a)) λm n s I=>?_)));obtain ⟨rfl,rfl,hle,I⟩:=I
 have fin:qo (qt (rz L.maxOf (pL (pI p6 (U 2) (pG (f0 1))) (pL (pG (f0 0)) pK)))) qm [J (Y a),J (f2 (nL w)),J (f0 (m:M))] s (tB K):=by
  refine cP (v:=f0 (m - 1:M)) (rJ (cE (rE (Z H) rD rV) (cE rD cF)) λK k=>?_) (k (m - 1) λi j sC h1 h2=>I j sC (Dp [1] 0x29024004c0204053842730404 H h1 h2 (Yc _ _)));refine(w1 _ _ H ?_)
  have a:max ((m:M) - 1:al) 0=(m - 1:M):=by
   cases m with
   | zero=>rfl
   | succ m=>exact(sJ (max · 0) (Int.add_sub_cancel (m:al) 1)).trans (Int.max_eq_left (ig m))
  exact D a k
 cases m with
 | zero=>exact(tC Zt (rO (s:=Zt) (t:=pH) (rL (Z H) rD (Op.gt (p:=0) (q:=0))) λq=>(ft q)) (λq=>(ft q)) (λø=>fin))
 | succ m=>
  have hm:=gM (show m<R w by exact tD [1] 0x290252802400402 H hle);generalize w[m]=sC at hm;have w!:Ev (pI p6 (U 2) (pG (f0 1))) [J (Y a),J (f2 (nL w)),J (f0 (m+1:M))] s (f0 (m:M)):=tj (ez (kT m):((m+1:M):al) - 1=(m:M)) (rE (Z H) rD rV);refine(tC (vU G sC) (rP ((sM (Int.natCast_pos.mpr (mV m)):decide ((0:al)<(m+1:M))=pH)▸rL (Z H) rD Op.gt) (rQ (rS (rE (rH (Z H) (rT he hf)) (rE (Z H) w! (r8 (xk hm))) (r5 hn (ux (f:=λX=>ii (vU G X)) (hr sC (gz hm)))))))) (λq Kb hK=>?_) (λq=>fin));refine cI w! (hK .next _ _ (xy m H m (iC _) H (uS H (tD [1] 0x290242802400402 H hle) (λj bv hj hZ=>?_))))
  rcases kq hj with h | h
  .exact I j bv h hZ
  .rw[<- h,hm]at hZ;refine tj (gv hZ) ?_;exact wq.mp q
noncomputable def Ip(ZO:V ((M×M)×sE)):V (LV×LV):=dT (λe=>[e.1.1,e.1.2]) (λe=>Y e.2) ZO
theorem Tn{ZO:V ((M×M)×sE)}{k:M×M}:[k.1,k.2]∈ZO.map (λe=>[e.1.1,e.1.2])<->k∈ZO.map (·.1):=by
 refine AU gL (AU gL ?_)
 constructor
 .rintro ⟨⟨⟨a,b⟩,c⟩,h,e⟩;cases k;cases e;exact(ti _ h H)
 .rintro ⟨⟨⟨a,b⟩,c⟩,h,e⟩;subst e;exact(ti _ h H)
theorem Q6{ZO:V ((M×M)×sE)}(h:(ZO.map (·.1)).Nodup):(ZO.map (λe=>[e.1.1,e.1.2])).Nodup:=by
 refine jV.mpr ((jV.mp h).imp λ{a b} Z0 e=>Z0 ?_);obtain ⟨⟨a1,a2⟩,_⟩:=a;obtain ⟨⟨b1,b2⟩,_⟩:=b;cases e;rfl
noncomputable abbrev Po(S:V SR)(i j:M)(done:V M)(ZO:V ((M×M)×sE)):Prop:=(ZO.map (·.1)).Nodup/\(∀q t,(q,t)∈ZO.map (·.1)<->(∃r,q<i/\S[q]?=J r/\t∈r.rs)\/(q=i/\t∈done))/\R ZO<=20*i+j
def Po.nd{ZO:V ((M×M)×sE)}(h:Po S i j w ZO):=h.1
def Po.iff{ZO:V ((M×M)×sE)}(h:Po S i j w ZO):=h.2.1
def Po.len{ZO:V ((M×M)×sE)}(h:Po S i j w ZO):=h.2.2
noncomputable def Jg(a nu tr ix di re inc tu lb:sE):V LV:=[Y a,Y nu,Y tr,Y ix,Y di,Y re,Y inc,Y tu,Y lb]
noncomputable def E0(e d lb:sE)(fs:V LV)(ZO:V ((M×M)×sE))(lr:M->V M)(l:V (sE×LO)):V (sE×LO):=(e,f4 500 d fs)::(lb,f8 (Ip ZO))::(u4 (ZO.map (·.2)) lr++l)
noncomputable abbrev XX:=sF LV×sF LV×sF LV×sF LV×sF LV×sF LV×sF LV×sF LV×sF LV×sF LV×sF LV
noncomputable def Ww.ZA(e g:sE)(z:XX):uZ:=[J (Y e),J (Y g),z.1,z.2.1,z.2.2.1,z.2.2.2.1,z.2.2.2.2.1,z.2.2.2.2.2.1,z.2.2.2.2.2.2.1,z.2.2.2.2.2.2.2.1,z.2.2.2.2.2.2.2.2.1,z.2.2.2.2.2.2.2.2.2.1,z.2.2.2.2.2.2.2.2.2.2]
theorem Nf:u4 (ua++[a]) (λø=>[])=u4 ua (λø=>[])++[(a,f1 [])]:=by
 unfold u4 wg;exact D nT H
theorem YC(B:x4 G S)(hS:G.Sm)(hA:AX E a g da ad G S)(O:sX E s (E0 Cl d c1 (Jg a nu f fm c8 c2 cr cp c1) [] (λø=>[]) pre)){z:XX}
  (k:∀ZO z s',Po S (R S) 0 [] ZO->sX E s' (E0 Cl d c1 (Jg a nu f fm c8 c2 cr cp c1) ZO (λø=>[]) pre)->uk (Ww.ZA Cl g z) s' Kb):qo (qI (qJ (L.Zx 383 1 (L.Zx 500 0 (U 0)))) (qF 2) vF) uk (Ww.ZA Cl g z) s Kb:=by
 refine dq (loc:=Ww.ZA Cl g) (z0:=z) (λi z s=>∃ZO,Po S i 0 [] ZO/\sX E s (E0 Cl d c1 (Jg a nu f fm c8 c2 cr cp c1) ZO (λø=>[]) pre)) (rH (rH (Z H) (rT (O.Zu 0 H) H)) (rT (O.le _ _ hA.ar) H)) (λi z s ZN=>s9 ZN λø ø O=>O.le _ _ hA.aB) ⟨[],⟨iU,λq t=>⟨λh=>(by cases h),λh=>h.elim (λZN=>s9 ZN λr h ø=>absurd h (iF _)) λh=>(by cases h.2)⟩,gE _⟩,O⟩ (λi v z s K' hv I hK=>?_) λz s I=>?_
 .refine s9 I λZO P O=>?_
  rw[gG]at hv
  (refine s9 (gR.mp hv) λr hr e9=>?_;refine tj e9 ?_)
  obtain ⟨am,F⟩:=B.exp hr;refine D9 ((hA.Zz O.le).ay i r hr) λh1 ø ø h4=>?_
  refine dq (loc:=Ww.ZA Cl g) (z0:=(J (Y r.ae),z.2)) (λj z s=>z.1=J (Y r.ae)/\∃ZO,Po S i j (r.rs.take j) ZO/\sX E s (E0 Cl d c1 (Jg a nu f fm c8 c2 cr cp c1) ZO (λø=>[]) pre)) (rH (Z H) (rT h1 H)) (λj z s ZN=>Mz ZN λø ø ø O=>((hA.Zz O.le).ay i r hr).2.2.2) ⟨H,ZO,P,O⟩ (λj v z s K1 hv I ZW=>?_) λz s I=>?_
  .obtain ⟨hz,ZO,P,O⟩:=I
   (refine s9 (wa hv) λt ht e9=>?_;refine D e9 ?_)
   obtain ⟨z1,z⟩:=z;subst hz;have h1:=((hA.Zz O.le).ay i r hr).1;refine⟨by decide,λb hb=>?_⟩;have O:=O.new (o:=f1 []) hb;have h1:=((hA.Zz O.le).ay i r hr).1
   have UF:(i,t)∉ZO.map (·.1):=λhm=>by
    rcases (P.iff i t).mp hm with ⟨_,h,_⟩ | ⟨_,h⟩
    .exact iV _ h
    .exact yp ht am.aX.2 h
   refine rH (v:=Y c1) (Z H) (rT (O.Zu 1 H:ur s b (f1 []) Cl=J (f4 500 d (Jg a nu f fm c8 c2 cr cp c1))) H) _ (cW (u:=f0 (i:M)) (v:=f0 (t:M)) (rH (Z H) (rT h1 H)) (Z H) _ ⟨_,(xZ (y:=Y b) (X:=[i,t]) (key:=λCl:(M×M)×sE=>[Cl.1.1,Cl.1.2]) (val:=λCl=>Y Cl.2) (xs:=ZO) (O.Zu 2 H) (Mq [1025,20,10000000] 0x1048121cc1100810042808107084a6a04012d006 H (B.len hS) ((gB.mp hr).1) ((gB.mp ht).1) am.aX.1 P.len) (λhm=>UF (Tn (k:=(i,t)) |>.mp hm))),?_⟩);have O:=O.set 2 H (f8 (Ip ZO++[(f2 [f0 (i:M),f0 (t:M)],Y b)]));refine ZW .next _ _ ⟨(J (Y r.ae),(J (f0 (t:M)),z.2)),H,H,ZO++[((i,t),b)],⟨?_,λq t'=>?_,by exact D gK (jO P.len)⟩,?_⟩
   .exact D gF (iP.mpr ⟨P.nd,u5 _,λb hb c hc Cl=>UF (by rw[jc,gJ]at hc;have Cl:b=(i,t):=Cl.trans hc;exact Cl▸hb)⟩)
   ·(refine D gF (AU gP ?_);rewrite[P.iff];refine D jc (AU gJ (AU (vR ht) (AU or_assoc ?_))))
    refine w8 ⟨λh=>h.elim (λh=>⟨h.1,.inl h.2⟩) λh=>?_,λZN=>xA ZN λh1 h2=>h2.elim (λh=>.inl ⟨h1,h⟩) λh=>.inr ?_⟩
    ·(refine D ((iX h).1.symm) ?_;refine D ((iX h).2.symm) ?_);exact⟨H,.inr H⟩
    .exact D h1 (D h H)
   .have e1:E0 Cl d c1 (Jg a nu f fm c8 c2 cr cp c1) (ZO++[((i,t),b)]) (λø=>[]) pre=[(Cl,f4 500 d (Jg a nu f fm c8 c2 cr cp c1)),(c1,f8 (Ip ZO++[(f2 [f0 (i:M),f0 (t:M)],Y b)]))]++((u4 (ZO.map (·.2)) (λø=>[])++[(b,f1 [])])++pre):=by
     unfold E0 Ip dT;exact D gF (D gF (D jc (D jc (D Nf H))))
    exact D e1 (sX.perm (l:=[(b,f1 [])]++([(Cl,f4 500 d (Jg a nu f fm c8 c2 cr cp c1)),(c1,f8 (Ip ZO++[(f2 [f0 (i:M),f0 (t:M)],Y b)]))]++(u4 (ZO.map (·.2)) (λø=>[])++pre))) O (G6 (kQ _)))
  .refine Mz I λhz ZO P O=>?_
   rw[sU,ic]at P;refine hK .next _ _ ⟨_,H,ZO,⟨P.nd,λq t=>(P.iff q t).trans ⟨λh=>.inl (h.elim (λZN=>s9 ZN λr' h1 h2=>⟨r',ja h1,h2⟩) λZN=>xA ZN λh1 h2=>⟨r,lG (i5 h1),h1▸hr,h2⟩),λh=>h.elim (λZN=>tW ZN λr' h1 h2 h3=>?_) λh=>(by cases h.2)⟩,?_⟩,O⟩
   .rcases kq (kM.mp h1) with h | h
    .exact .inl ⟨r',h,h2,h3⟩
    .obtain rfl:=h.symm;refine D (gv (hr.symm.trans h2)) ?_;exact .inr ⟨H,h3⟩
   .exact gA P.len (ou am.aX.1 _)
 .refine s9 I λZO P O=>?_
  rw[gy]at P;exact k ZO z s P O
structure Al where
 ae:sE
 aD:sE
 bR:sE
 ls:sE
 ai:sE
 au:sE
 a7:sE
 aZ:sE
 bB:sE
 b7:sE
 re:sE
 inc:sE
 bD:sE
 bf:sE
 a8:V sE
 ut:V sE
 a9:V ((M×M)×sE)
 aj:GA
 aB:V (sE×LO)
variable {i4:Al}
noncomputable def Al.aR(A:Al):V LV:=Jg A.ae A.a7 A.aZ A.bB A.b7 A.re A.inc A.bD A.bf
noncomputable abbrev H9(st:LH)(G:Gm)(S:V SR)(A:Al):Prop:=GX st A.aD G A.aj/\G.ZU/\x4 G S/\AX st A.ae A.aD A.bR A.ls G S/\LX st G S A.a7 A.aZ A.bB/\st A.inc=J (f1 (A.a8.map Y))/\st A.bD=J (f1 (A.ut.map Y))/\R A.a8=R (vW G.aa 0 S)/\R A.ut=R (vW G.aa 0 S)/\Po S (R S) 0 [] A.a9
def H9.gx(h:H9 s G S i4):=h.1
def H9.fit(h:H9 s G S i4):=h.2.1
def H9.aP(h:H9 s G S i4):=h.2.2.1
def H9.ax(h:H9 s G S i4):=h.2.2.2.1
def H9.lx(h:H9 s G S i4):=h.2.2.2.2.1
def H9.inc(h:H9 s G S i4):=h.2.2.2.2.2.1
def H9.bD(h:H9 s G S i4):=h.2.2.2.2.2.2.1
def H9.a8(h:H9 s G S i4):=h.2.2.2.2.2.2.2.1
def H9.ut(h:H9 s G S i4):=h.2.2.2.2.2.2.2.2.1
def H9.bf(h:H9 s G S i4):=h.2.2.2.2.2.2.2.2.2
noncomputable def IG(G:Gm)(S:V SR)(inner x:M):Prop:=∃f t α X β p,(vW G.aa 0 S)[x]?=J (f,G.ZE t)/\t<R G.ZF/\G.Zv t=α++X::β/\(∀b∈β,Gl G b)/\xo S f α=J p/\(vW G.aa 0 S)[inner]?=J (p,X)
noncomputable def Xo(G:Gm)(S:V SR)(k:M×M)(x:M):Prop:=∃f,(vW G.aa 0 S)[x]?=J (f,G.ZE k.2)/\k.2<R G.ZF/\xo S f (G.Zv k.2)=J k.1
noncomputable abbrev Z3:=(M->V M)×(M->V M)×(M->V M)
noncomputable def Al.ZC(A:Al)(z:Z3):V (sE×LO):=E0 A.ai A.au A.bf A.aR A.a9 z.2.2 (u4 A.a8 z.1++(u4 A.ut z.2.1++A.aB))
structure RZ (st:LH) (G:Gm) (S:V SR) (A:Al) (pre:V (sE×LO)) (z:Z3) (s:LH):Prop where
 ZC:sX st s (pre++A.ZC z)
 inc:x8 (R (vW G.aa 0 S)) (IG G S) z.1
 Þ:x8 (R (vW G.aa 0 S)) (λø ø=>True) z.2.1
 bo:x8 (R (vW G.aa 0 S)) (λj x=>∀k a,A.a9[j]?=J (k,a)->Xo G S k x) z.2.2
structure YD (st:LH) (G:Gm) (S:V SR) (A:Al) (c:sE×LO) (f t j:M) (z:Z3) (n:M) (s:LH):Prop extends RZ st G S A [c] z s where
 aH:xo S f ((G.Zv t).take j)=J n
 ao:∃ao,S[n]?=J ao/\(t,j)∈ao.aJ
noncomputable abbrev ZS:=Z3×M×sF LV×sF LV×sF LV
noncomputable def XY.ZA(A:Al)(y2:sF LV)(G:Gm)(t x f en:M)(z:ZS):uZ:=[J (Y A.ai),J (Y A.aD),y2,J (f0 t),J (f0 x),J (f0 f),J (f0 (G.ZE t)),J (f2 (nL (G.Zv t))),J (f0 en),J (f0 z.2.1),z.2.2.1,z.2.2.2.1,z.2.2.2.2]
theorem Ia(hS:G.Sm)(B:x4 G S):R (vW G.aa 0 S)<=262152:=by have:=B.bA hS (i:=R S) (tc:=G.aa) (b:=0);rw[ic]at this;exact this
theorem To(C:H9 E G S i4){en:M}{c:sE×LO}{z:ZS}(ht:t<R G.ZF)(hx:(vW G.aa 0 S)[N]?=J (y,G.ZE t))(Ŷ:∀i j sC,en<=i->i<j->(G.Zv t)[j]?=J sC->Gl G sC)(hj:j<R (G.Zv t))(I:YD E G S i4 c y t j z.1 z.2.1 s)
  (hK:∀fl em s',ue (zI (XY.ZA i4 y12 G t N y en) λz s=>YD E G S i4 c y t (j+1) z.1 z.2.1 s) Kb fl em s'->K' fl em s'):u3 ((XY.ZA i4 y12 G t N y en z).set 10 (J (f0 j))) s K':=by
 refine s9 I.ao λr hr hJ=>?_
 have hX:=gM hj;have j!:G.Zv t=(G.Zv t).take j++(G.Zv t)[j]::(G.Zv t).drop (j+1):=by exact tj (jk hj) (D (kR _ _) H)
 generalize (G.Zv t)[j]=X at hX j!
 (refine vS (C.aP.over hr hJ hX) λm r' hXx Id ZP r9=>xA r9 λø hJ'=>?_)
 have hT:=Ia C.fit.toSm C.aP;refine cI (v:=f0 (X:M)) (rE (Z H) (Z H) (r8 (xk hX))) (sP ?_)
 have next:∀(z':Z3) (yy:sF LV) s,RZ E G S i4 [c] z' s->u0 (((XY.ZA i4 y12 G t N y en (z',z.2.1,J (f0 j),J (f0 X),yy)))) s K':=λz' yy s I'=>by
  have he:s i4.ai=J (f4 500 i4.au i4.aR):=I'.ZC.Zu 1 H;have D?:=C.ax.Zz I'.ZC.le;have cg:=Kd (X:=X) C.aP D? (gB.mp hr).1;rw[Id]at cg;refine cI (v:=f0 (m:M)) (rK (rH (Z H) (rT he H)) (cK D?.ar) (cE (Z H) (cE (Z H) cF)) cg) (sP (hK .next _ _ (ti (z',m,J (f0 j),J (f0 X),yy) H ⟨I',?_,r',ZP,hJ'⟩)));exact D (tF hX) (D D3 (D I.aH Id))
 refine cL (t:=b8 ((en:al)<=j)&&!b8 ((X:al)<G.aa)) (rO (rL (Z H) (Z H) rY) λø=>rQ (rN (rS (rK (Z H) (cK (C.gx.Zz I.ZC.le).hg) (cE (Z H) cF) (vP (C.gx.Zz I.ZC.le)))))) (λq=>?_) λq=>sP (next (z.1.1,z.1.2.1,z.1.2.2) z.2.2.2.2 s I.toRZ)
 refine xA (iL.mp q) λq1 q2=>?_
 have q2:G.aa<=X:=by simp at q2;exact tD [] 0x52048520402 H q2
 refine s9 (Of (C.lx.Zz I.ZC.le) C.aP hr hXx q2) λinner ă op=>?_
 have t!:=(gB.mp ă).1;have M!:=(gB.mp hx).1;refine cI (v:=f0 (inner:M)) (rE (rH (Z H) (rT (I.ZC.Zu 1 H) H)) (cW (Z H) (Z H)) op) (sP (xE (⟨_,gM (C.a8▸t!)⟩ : ∃b,i4.a8[inner]?=J b) λb hb=>?_));refine xE (⟨_,gM (C.ut▸t!)⟩ : ∃b,i4.ut[inner]?=J b) λb2 E!=>?_
 refine dD (cO (cC (rE (v:=Y b) (rH (Z H) (rT (I.ZC.Zu 1 H) H)) (Z H) (r5 (I.ZC.le _ _ C.inc) (vl hb)) _ (cC (cG H (cH (D4 (pre:=[c,(i4.ai,f4 500 i4.au i4.aR),(i4.bf,f8 (Ip i4.a9))]++u4 (i4.a9.map (·.2)) z.1.2.2) (post:=u4 i4.ut z.1.2.1++i4.aB) (ua:=i4.a8) (us:=z.1.1) (by rw[gW];exact I.ZC) hb (gA (I.inc.len inner) (gA hT (by decide))) λs O=>sP ?_)))))))
 have I1:RZ E G S i4 [c] (GO z.1.1 inner N,z.1.2.1,z.1.2.2) s:=⟨by rw[gW]at O;exact O,I.inc.add M! ((Dz y t _ (C2 X _ z.2.1 hx ht j! (λb hb=>by
  refine xE (ie hb) λk hk=>?_
  rw[lB]at hk;exact Ŷ j _ b (jf.mp (sQ q1):en<=j) (by exact tD [1] 0xa009000204a1 H) hk) I.aH ă)):IG G S inner N),I.Þ,I.bo⟩
 refine cL (rL (Z H) rD rZ) (λø=>?_) λø=>sP (sP (next _ (J (f0 inner)) s I1))
 exact dD (cO (cC (rE (v:=Y b2) (rH (Z H) (rT (I1.ZC.Zu 1 H:s i4.ai=J (f4 500 i4.au i4.aR)) H)) (Z H) (r5 (I1.ZC.le _ _ C.bD) (vl E!)) _ (cC (cG H (cH (D4 (pre:=[c,(i4.ai,f4 500 i4.au i4.aR),(i4.bf,f8 (Ip i4.a9))]++u4 (i4.a9.map (·.2)) z.1.2.2++u4 i4.a8 (GO z.1.1 inner N)) (post:=i4.aB) (ua:=i4.ut) (us:=z.1.2.1) (by rw[gW,gW];exact I1.ZC) E! (gA (I.Þ.len inner) (gA hT (by decide))) λs O=>sP (sP (sP (sP (next (GO z.1.1 inner N,GO z.1.2.1 inner N,z.1.2.2) (J (f0 inner)) s ⟨by rw[gW,gW]at O;exact O,I1.inc,I.Þ.add M! trivial,I.bo⟩)))))))))))
noncomputable abbrev ZR:=Z3×sF LV×sF LV×sF LV×sF LV×sF LV×sF LV×sF LV×sF LV
noncomputable def YE.ZA(A:Al)(x f lf:M)(z:ZR):uZ:=[J (Y A.ai),J (Y A.aD),z.2.1,z.2.2.1,J (f0 x),J (f0 f),J (f0 lf),z.2.2.2.1,z.2.2.2.2.1,z.2.2.2.2.2.1,z.2.2.2.2.2.2.1,z.2.2.2.2.2.2.2.1,z.2.2.2.2.2.2.2.2]
theorem Tp(C:H9 E G S i4){z:ZR}(hx:(vW G.aa 0 S)[X]?=J (m,N))(hv:(nL (G.ZL N))[i]?=J v)(I:RZ E G S i4 [(c,f1 (nL (G.ZL N)))] z.1 s)
  (hK:∀fl em s',ue (zI (YE.ZA i4 X m N) λz s=>RZ E G S i4 [(c,f1 (nL (G.ZL N)))] z.1 s) Kb fl em s'->K' fl em s'):vr ((YE.ZA i4 X m N z).set 3 (J v)) s K':=by
 refine Bt v (wa hv) λt ht=>xA (vK.mp (gz ht)) λÂ W'=>?_
 subst W';refine yf (Q4 hx) λr0 np H' ht0 Id=>?_
 refine s9 (((C.aP.exp np).2 _).mp H') λp0 J? q!=>?_
 have Χ:t≠0:=λe=>by
  subst e;have hX:(G.Zv p0.1)[p0.2]?=J (G.ZE 0):=q!;rw[C.fit.bN]at hX
  by_cases e:p0.1=0
  .rw[e,C.fit.t0]at hX;have:=gz hX;simp at this;have:=C.fit.Ý;lia
  .exact(C.fit.Ü p0.1 ((C.aP.exp np).1.o0.ok p0 J?).ao e _ (gz hX)).2 H
 have Ē:=C.gx.Zz I.ZC.le;refine vL (Ē.rule Â) λra rd ZM ha ol=>cI (v:=f2 (nL (G.Zv t))) (rH (rE (rH (Z H) (rT Ē.hg H)) (Z H) (r5 Ē.Z2 (vl ha))) (rT ol H)) (sP ?_)
 refine cQ (cT (Z (v:=Y i4.ai) H _ ⟨cK (I.ZC.Zu 1 H:s i4.ai=J (f4 500 i4.au i4.aR)),cC (cG H (cH (LZ (C.lx.Zz I.ZC.le).a7 (I.ZC.Zu 1 H:s i4.ai=J (f4 500 i4.au i4.aR)) H (C.fit.toSm.rt t Â) λen Ŷ=>sP ?_)))⟩));refine cI (Z H) (sP (dH (loc:=XY.ZA i4 z.2.1 G t X m en) (z0:=(z.1,m,z.2.2.2.2.2.2.1,z.2.2.2.2.2.2.2.1,z.2.2.2.2.2.2.2.2)) (n:=R (G.Zv t)) (λj z s=>YD E G S i4 (c,f1 (nL (G.ZL (G.ZE t)))) m t j z.1 z.2.1 s) (tj (by exact D (sU _) H:(R (nL (G.Zv t)):al)=(R (G.Zv t):M)) (rJ (cE (Z H) cF) sb)) (gA (C.fit.toSm.au t) (by decide)) ⟨I,H,r0,np,(C.aP.open np J? q! Â H)⟩ (λj z s K1 hj rC ZW=>To C Â hx Ŷ hj rC ZW) λw s rC=>sP ?_));refine s9 rC.ao λr hr hJ=>?_
 have hw:=rC.aH;rw[ic]at hw;obtain ⟨⟨k,b⟩,G_,hk⟩:=gL.mp ((C.bf.iff w.2.1 t).mpr (.inl (tC r ((gB.mp hr).1) hr (((C.aP.exp hr).1.rs t).mpr ⟨Χ,hJ⟩ : t∈r.rs))):(w.2.1,t)∈i4.a9.map (·.1));subst (hk:k=(w.2.1,t));refine xE (ie G_) λj hj=>?_
 have hb:(i4.a9.map (·.2))[j]?=J b:=by refine D (gG) (D hj ?_);rfl
 refine dD (cO (cC (rE (v:=Y b) (rH (Z H) (rT (rC.ZC.Zu 1 H:s i4.ai=J (f4 500 i4.au i4.aR)) H)) (cW (Z H) (Z H)) (dO (key:=λe:(M×M)×sE=>[e.1.1,e.1.2]) (val:=λe=>Y e.2) (q:=((w.2.1,t),b)) (rC.ZC.Zu 2 H:s i4.bf=J (f8 (Ip i4.a9))) (Q6 C.bf.nd) G_:Op (qi (Y i4.bf) (f2 [f0 w.2.1,f0 t])) s (Y b)) _ (cC (cG H (cH (D4 (pre:=[(c,f1 (nL (G.ZL (G.ZE t)))),(i4.ai,f4 500 i4.au i4.aR),(i4.bf,f8 (Ip i4.a9))]) (post:=u4 i4.a8 w.1.1++(u4 i4.ut w.1.2.1++i4.aB)) (ua:=i4.a9.map (·.2)) (us:=w.1.2.2) rC.ZC hb (gA (rC.bo.len j) (gA (Ia C.fit.toSm C.aP) (by decide))) λs O=>sP (hK .next _ _ (ti ((w.1.1,w.1.2.1,GO w.1.2.2 j X),z.2.1,J (f0 t),J (f2 (nL (G.Zv t))),J (f0 en),J (f0 w.2.1),w.2.2.1,w.2.2.2.1,w.2.2.2.2) H ⟨O,rC.inc,rC.Þ,rC.bo.add ((gB.mp hx).1) λk a e=>?_⟩)))))))));rw[hj]at e;cases e;exact(tC m hx Â hw)
theorem YF{A:Al}(C:H9 E G S A){z:XX}{z3:Z3}(I:RZ E G S A [] z3 s)(k:∀z3 s',RZ E G S A [] z3 s'->K .none s'):uk (Ww.ZA A.ai A.aD z) s (tB K):=by
 refine dH (loc:=λz:Z3×XX=>Ww.ZA A.ai A.aD z.2) (z0:=(z3,z)) (n:=R (vW G.aa 0 S)) (λi z s=>RZ E G S A [] z.1 s) (tj (by exact D (gy _) H:(R ((vW G.aa 0 S).map pT):al)=(R (vW G.aa 0 S):M)) (rJ (cE (rH (Z H) (rT (I.ZC.Zu 0 H:s A.ai=J (f4 500 A.au A.aR)) H)) cF) (sa ((C.lx.Zz I.ZC.le).aZ)))) (gA (Ia C.fit.toSm C.aP) (by decide)) I (λi z s K' hi I hK=>?_) λz s I=>sP (k z.1 s I)
 have hx:=gM hi;generalize (vW G.aa 0 S)[i]=p at hx;obtain ⟨f,lf⟩:=p;have hp:((vW G.aa 0 S).map pT)[i]?=J (f2 [f0 f,f0 lf]):=by refine D (gG) (D hx ?_);rfl
 refine yf (Q4 hx) λr0 np H' ø ø=>dK (rE (rH (Z H) (rT (I.ZC.Zu 0 H:s A.ai=J (f4 500 A.au A.aR)) H)) (Z H) (r5 ((C.lx.Zz I.ZC.le).aZ) hp)) H (sP ?_)
 refine dE (cX (cT (Z (v:=Y A.aD) H _ ⟨cK ((C.gx.Zz I.ZC.le).hg),cC (cG H (cH (BR (C.gx.Zz I.ZC.le) C.fit.toSm ((C.aP.xl C.fit.toSm (gz np)).2 lf H') (RL.ZC I.ZC λc s O=>?_))))⟩)));exact yR (loc:=YE.ZA A i f lf) (z0:=(z.1,z.2.1,z.2.2.1,z.2.2.2.2.2.2.1,z.2.2.2.2.2.2.2.1,z.2.2.2.2.2.2.2.2.1,z.2.2.2.2.2.2.2.2.2.1,z.2.2.2.2.2.2.2.2.2.2.1,z.2.2.2.2.2.2.2.2.2.2.2)) (λj z s=>RZ E G S A [(c,f1 (nL (G.ZL lf)))] z.1 s) (λj z s I=>I.ZC.Zu 0 H) ⟨O,I.inc,I.Þ,I.bo⟩ (λj v z s K1 hv I ZW=>Tp C hx hv I ZW) λw s I=>hK .next _ _ (ti (w.1,w.2.1,w.2.2.1,J (f0 i),J (f0 f),J (f0 lf),w.2.2.2.1,w.2.2.2.2.1,w.2.2.2.2.2.1,w.2.2.2.2.2.2.1,w.2.2.2.2.2.2.2.1,w.2.2.2.2.2.2.2.2) H ⟨sX.tail I.ZC,I.inc,I.Þ,I.bo⟩)
noncomputable def St(P:M->M->Prop)(x y:M):Prop:=∀C:M->M->Prop,(∀x,C x x)->(∀{x y z},P x y->C y z->C x z)->C x y
@[elab_as_elim] theorem St.ind{C:M->M->Prop}(h:St P i y)(r:∀i,C i i)(s:∀{i y z},P i y->C y z->C i z):C i y:=h C r s
theorem St.refl(x:M):St P x x:=λø r ø=>r x
theorem St.step(h:P i y)(k:St P y t):St P i t:=λC r s=>s h (k C r s)
theorem St.trans(h:St P t y):St P y X->St P t X:=St.ind h (λø k=>k) λh i k=>.step h (i k)
theorem St.one(h:P i y):St P i y:=.step h (.refl _)
noncomputable abbrev Rs(rel:M->V M):M->M->Prop:=St λx y=>y∈rel x
structure Fr where
 ae:sE
 aj:M
 aN:M
 ah:M
variable {ib:Fr} {i8:V Fr}
structure Dg where
 aC:V M
 aq:V Fr
 av:M->M
 res:M->M
variable {i6:Dg}
noncomputable def Y5(rel:M->V M)(ms:M->M)(n:M)(res:M->M):Prop:=∀v,v<n->∀t,(res v).testBit t=pH->∃y,Rs rel v y/\y<n/\(ms y).testBit t=pH
noncomputable abbrev z8(rel:M->V M)(ms:M->M)(n:M)(ad:Dg):Prop:=ad.aC.Nodup/\(∀v∈ad.aC,v<n)/\(∀v,v<n->ad.av v≠0->v∈ad.aC\/ad.av v=n+1)/\(∀(i:M) v,ad.aC[i]?=J v->ad.av v≠0/\ad.av v<=i+1/\∃w,ad.aC[ad.av v - 1]?=J w/\Rs rel v w)/\(∀f∈ad.aq,f.aN≠0/\ad.aC[f.aN - 1]?=J f.aj/\f.ah<=R (rel f.aj))/\(ad.aq.Pairwise λf g=>Rs rel f.aj g.aj/\f.aN<g.aN)/\(∀(i:M) v,ad.aC[i]?=J v->(∀f∈ad.aq,f.aj≠v)->ad.av v<=i)/\(ad.aq=[]->ad.aC=[])/\(∀f,ad.aq.head? = J f->f.aN=1)/\Y5 rel ms n ad.res
def z8.nd(h:z8 cj ms i i6):=h.1
def z8.lt(h:z8 cj ms i i6):=h.2.1
def z8.ě(h:z8 cj ms i i6):=h.2.2.1
def z8.po(h:z8 cj ms i i6):=h.2.2.2.1
def z8.fr(h:z8 cj ms i i6):=h.2.2.2.2.1
def z8.ch(h:z8 cj ms i i6):=h.2.2.2.2.2.1
def z8.co(h:z8 cj ms i i6):=h.2.2.2.2.2.2.1
def z8.bot(h:z8 cj ms i i6):=h.2.2.2.2.2.2.2.1
def z8.hd{n:M}(h:z8 cj ms n i6):=h.2.2.2.2.2.2.2.2.1
def z8.snd(h:z8 cj ms i i6):=h.2.2.2.2.2.2.2.2.2
theorem z8.top(I:z8 cj ms t i6)(hF:i6.aq=i8++[ib]):∀(i:M) v,i6.aC[i]?=J v->Rs cj v ib.aj:=by
 intro i
 induction i using Nat.strongRecOn with
 | ind i ih=>
  intro v hv
  by_cases h:∃g∈i6.aq,g.aj=v
  .refine vp v h λg hg=>?_
   rw[hF]at hg
   rcases gP.mp hg with hg | hg
   .have:=I.ch;rw[hF]at this;exact((kU.mp this).2.2 g hg ib (iE _)).1
   .rw[gJ]at hg;exact D hg (.refl _)
  ·(refine zY (I.po i v hv) λh0 ø r9=>s9 r9 λw hw hr=>?_)
   exact hr.trans (ih (i6.av v - 1) (ij (Nat.pred_lt h0) (I.co i v hv λg hg e=>h (ti g hg e))) w hw)
theorem z8.len(I:z8 cj ms i i6):R i6.aC<=i:=by
 have:=tP (m:=gN i) I.nd λv hv=>iM.mpr (I.lt v hv)
 rw[iq]at this;exact this
theorem z8.π(I:z8 cj ms i i6)(hF:i6.aq=i8++[ib]):ib.aN≠0/\i6.aC[ib.aN - 1]?=J ib.aj/\ib.ah<=R (cj ib.aj):=I.fr ib (D hF (gU _ (iE _)))
theorem Kf:vm F i t i=t:=sI H
theorem D5(h:y≠i):vm F i t y=F y:=sH h
theorem z8.push(I:z8 cj ms t i6){a:sE}(hy:y<t)(h0:i6.av y=0)(hr:i6.aq=[]\/∃i8 ib,i6.aq=i8++[ib]/\y∈cj ib.aj) :
  z8 cj ms t {i6 with aC:=i6.aC++[y],aq:=i6.aq++[⟨a,y,R i6.aC+1,0⟩],av:=vm i6.av y (R i6.aC+1)}:=by
 have hn:y∉i6.aC:=λh=>by
  refine xE (ie h) λi hi=>?_
  exact(I.po i y hi).1 h0
 have Z6:∀(i:M) v,(i6.aC++[y])[i]?=J v->(i6.aC[i]?=J v/\v≠y)\/(i=R i6.aC/\v=y):=λi v h=>by
  rcases iZ i (R i6.aC) with hi | hi
  .rw[hV hi]at h;exact .inl ⟨h,λe=>hn (e▸gz h)⟩
  .rw[il hi,mT]at h
   split at h
   .refine D (gv h) ?_;exact .inr ⟨gZ (Nat.sub_eq_zero_iff_le.mp ‹_›) hi,H⟩
   .exact uH h
 have k_:∀(i:M) v,i6.aC[i]?=J v->(i6.aC++[y])[i]?=J v:=λi v h=>by refine D (hV (gB.mp h).1) ?_;exact h
 have l?:(i6.aC++[y])[R i6.aC]?=J y:=by refine D (il (gC _)) (D (iI _) ?_);rfl
 refine⟨?_,?_,?_,?_,?_,?_,?_,?_,?_,I.snd⟩
 .exact iP.mpr (uS I.nd (u5 _) (λb hb c hc e=>hn (by rw[gJ]at hc;exact hc▸e▸hb)))
 .intro v hv
  rcases gP.mp hv with hv | hv
  .exact I.lt v hv
  .rw[gJ]at hv;exact hv▸hy
 .intro v hv h
  by_cases e:v=y
  .exact .inl (gU _ (e▸iE _))
  .have h:vm i6.av y _ v≠0:=h;rw[D5 e]at h
   rcases I.ě v hv h with h | h
   .exact .inl (gV _ h)
   .exact .inr ((D5 e).trans h)
 .intro i v h
  rcases Z6 i v h with ⟨h,e⟩ | ⟨rfl,rfl⟩
  .refine(?_:vm i6.av y _ v≠0/\vm i6.av y _ v<=_/\∃w,(i6.aC++[y])[vm i6.av y _ v - 1]?=_/\_);refine D (D5 e) ?_
   (refine zY (I.po i v h) λh1 h2 r9=>s9 r9 λw hw hr=>?_)
   exact(uS h1 h2 (ti w (k_ _ _ hw) hr))
  .refine(?_:vm i6.av v _ v≠0/\vm i6.av v _ v<=_/\∃w,(i6.aC++[v])[vm i6.av v _ v - 1]?=_/\_);exact D Kf (uS (kT _) (gC _) (ti v l? (.refl _)))
 .intro g hg
  rcases gP.mp hg with hg | hg
  .exact zY (I.fr g hg) λh1 h2 h3=>(uS h1 (k_ _ _ h2) h3)
  .rw[gJ]at hg;subst hg;exact(uS (kT _) l? (gE _))
 .refine kU.mpr (uS I.ch (lY ..) (λg hg g' wv=>?_));rw[gJ]at wv;subst wv
  rcases hr with hr | ⟨i8,ib,hF,hyf⟩
  .rw[hr]at hg;cases hg
  .exact zY (I.fr g hg) λh1 h2 ø=>⟨(I.top hF _ _ h2).trans (.one hyf),show g.aN<R i6.aC+1 by exact uy [1] 0x2501025004c02040530423 H ((gB.mp h2).1) (Yc _ _)⟩
 .intro i v h Z0
  rcases Z6 i v h with ⟨h,e⟩ | ⟨rfl,rfl⟩
  .refine(?_:vm i6.av y _ v<=i);exact D (D5 e) (I.co i v h λg hg=>Z0 g (gV _ hg))
  .exact absurd rfl (Z0 _ (gU _ (iE _)))
 .intro h;have h:i6.aq++[_]=[]:=h;rw[pg]at h;cases h.2
 .intro g hg;have hg:(i6.aq++[_]).head? = J g:=hg;cases hF:i6.aq with
  | nil=>rw[hF]at hg;refine tj (gv hg) ?_;exact D (I.bot hF) H
  | cons b l=>rw[hF]at hg;exact I.hd g (D hF hg)
theorem z8.Ι(I:z8 cj ms X i6)(hF:i6.aq=i8++[ib])(hk:(cj ib.aj)[ib.ah]?=J y)(hy:y<X)(h0:i6.av y≠0) :
  z8 cj ms X {i6 with aq:=i8++[{ib with ah:=ib.ah+1}],av:=if i6.av y<i6.av ib.aj then vm i6.av ib.aj (i6.av y) else i6.av,res:=vm i6.res ib.aj (i6.res ib.aj|||i6.res y)}:=by
 refine zY (I.π hF) λt1 t2 t3=>?_
 (refine zY (I.po _ _ t2) λx1 x2 r9=>s9 r9 λw hw hxr=>?_)
 have agr:∀g,g∈i8++[{ib with ah:=ib.ah+1}]->∃g'∈i6.aq,g'.aj=g.aj/\g'.aN=g.aN/\(g.ah<=R (cj g.aj)):=λg hg=>by
  rcases gP.mp hg with hg | hg
  .exact(wU g (D hF (gV _ hg)) H rfl ((I.fr g (D hF (gV _ hg))).2.2))
  .rw[gJ]at hg;refine D hg ?_;exact(wU ib (D hF (gU _ (iE _))) H rfl ((gB.mp hk).1))
 have Ÿ:∀v,(if i6.av y<i6.av ib.aj then vm i6.av ib.aj (i6.av y) else i6.av) v=i6.av v\/(v=ib.aj/\i6.av y<i6.av ib.aj/\(if i6.av y<i6.av ib.aj then vm i6.av ib.aj (i6.av y) else i6.av) v=i6.av y):=λv=>by
  by_cases q:i6.av y<i6.av ib.aj
  .refine D (sI q) ?_
   by_cases e:v=ib.aj
   .exact .inr (uS e q (D e (D Kf H)))
   .exact .inl (D5 e)
  .exact D (sH q) (.inl H)
 refine⟨I.nd,I.lt,?_,?_,?_,?_,?_,?_,?_,?_⟩
 .intro v hv h;have h:(if i6.av y<i6.av ib.aj then vm i6.av ib.aj (i6.av y) else i6.av) v≠0:=h
  rcases Ÿ v with e | ⟨e,_,_⟩
  .rw[e]at h;exact(I.ě v hv h).imp id λq=>e.trans q
  .exact .inl (show v∈i6.aC from e▸gz t2)
 .intro i v h;refine(?_:(if i6.av y<i6.av ib.aj then vm i6.av ib.aj (i6.av y) else i6.av) v≠0/\(if i6.av y<i6.av ib.aj then vm i6.av ib.aj (i6.av y) else i6.av) v<=i+1/\∃w,i6.aC[(if i6.av y<i6.av ib.aj then vm i6.av ib.aj (i6.av y) else i6.av) v - 1]?=J w/\Rs cj v w)
  rcases Ÿ v with e | ⟨e,q,e2⟩
  .exact D e (I.po i v h)
  .refine D e2 ?_;subst e;refine zY (I.po i _ h) λp1 p2 ø=>?_
   have hyp:y∈i6.aC:=(I.ě y hy h0).resolve_right λe=>by
    exact(Yd [1] 0x10e1080250202332021004e03040520405 H I.len x2 q e ((gB.mp t2).1)).elim
   refine xE (ie hyp) λj hj=>?_
   (refine zY (I.po j y hj) λø ø r9=>s9 r9 λw' AC ZP=>?_)
   exact(uS h0 (uy [1] 0x2501024004a03040620423 H q p2) (ti w' AC (.step (gz hk) ZP)))
 .intro g hg;exact yf (agr g hg) λg' h1 h2 h3 h4=>zY (I.fr g' h1) λa1 a2 ø=>(uS (h3▸a1) (tj h3 (tj h2 a2)) h4)
 .have hc:=I.ch;rw[hF]at hc;exact zY (kU.mp hc) λc1 ø c3=>kU.mpr (uS c1 (lY ..) (λg hg g' wv=>by rw[gJ]at wv;subst wv;exact c3 g hg ib (iE _)))
 .intro i v h Z0
  have q_:∀g∈i6.aq,g.aj≠v:=λg hg=>by
   rw[hF]at hg
   rcases gP.mp hg with hg | hg
   .exact Z0 g (gV _ hg)
   .rw[gJ]at hg;exact D hg (Z0 {ib with ah:=ib.ah+1} (gU _ (iE _)))
  refine(?_:(if i6.av y<i6.av ib.aj then vm i6.av ib.aj (i6.av y) else i6.av) v<=i)
  rcases Ÿ v with e | ⟨e,_,_⟩
  .exact D e (I.co i v h q_)
  .exact absurd e.symm (q_ ib (D hF (gU _ (iE _))))
 .intro h;have h:i8++[_]=[]:=h;rw[pg]at h;cases h.2
 .intro g hg;have hg:(i8++[{ib with ah:=ib.ah+1}]).head? = J g:=hg;cases Į:i8 with
  | nil=>rw[Į]at hg;refine tj (gv hg) ?_;exact I.hd ib (D hF (D Į H))
  | cons b l=>rw[Į]at hg;exact I.hd g (D hF (D Į hg))
 .intro v hv t ht;have ht:(vm i6.res ib.aj (i6.res ib.aj|||i6.res y) v).testBit t=pH:=ht
  by_cases e:v=ib.aj
  .subst e;rw[Kf,jt,jo]at ht
   rcases ht with ht | ht
   .exact I.snd _ hv t ht
   .exact tW (I.snd y hy t ht) λz h1 h2 h3=>(tC z (.step (gz hk) h1) h2 h3)
  .rw[D5 e]at ht;exact I.snd v hv t ht
theorem L1:t∈w.drop j<->∃i,j<=i/\w[i]?=J t:=by
 constructor
 .intro h;refine xE (ie h) λk hk=>?_
  rw[lB]at hk;exact(ti (j+k) (jR ..) hk)
 .rintro ⟨i,h1,h2⟩
  refine gz (i:=i - j) (D (lB) (D (Nat.add_sub_cancel' h1) ?_));exact h2
theorem L2(nd:w.Nodup)(hi:i<j)(h:w[i]?=J t):t∉w.drop j:=λhm=>by
 refine s9 (L1.mp hm) λk h1 h2=>?_
 have:=(jq (gB.mp h).1 nd).mp (h.trans h2.symm);exact(OH [] 0x6204662840520423 H hi h1 this).elim
theorem G8(h:(w.take j)[i]?=J t):i<j/\w[i]?=J t:=by
 have hi:=(gB.mp h).1;rw[iA]at hi;rw[lD (ij hi (jK _ _))]at h;exact⟨ij hi (jK _ _),h⟩
theorem z8.Z!(I:z8 cj ms t i6)(hF:i6.aq=i8++[ib])(Z0:i6.av ib.aj≠ib.aN):z8 cj ms t {i6 with aq:=i8}:=by
 refine zY (I.π hF) λt1 t2 t3=>zY (I.po _ _ t2) λx1 x2 ø=>?_
 have Z1:∀g∈i8,g∈i6.aq:=λg hg=>D hF (gV _ hg)
 have hF0:i8≠[]:=λe=>by
  have:=I.hd ib (D hF (D e H));exact Z0 ((gZ (gA x2 (i5 (sJ (· - 1+1) this)):i6.av ib.aj<=1) (kY x1)).trans this.symm)
 refine⟨I.nd,I.lt,I.ě,I.po,λg hg=>I.fr g (Z1 g hg),?_,?_,λe=>absurd e hF0,?_,I.snd⟩
 .have:=I.ch;rw[hF]at this;exact(kU.mp this).1
 .intro i v h hv
  by_cases e:ib.aj=v
  .subst e;exact((jq (gB.mp h).1 I.nd).mp (h.trans t2.symm))▸Nat.le_sub_one_of_lt (kr (gA x2 (i5 (gO (kY t1)))) Z0)
  .refine I.co i v h λg hg=>?_
   rw[hF]at hg
   rcases gP.mp hg with hg | hg
   .exact hv g hg
   .rw[gJ]at hg;exact D hg e
 .intro g hg;refine I.hd g (D hF (D (List.head?_append) (D (hg:i8.head? = J g) ?_)));rfl
theorem z8.root(I:z8 cj ms X i6)(hF:i6.aq=i8++[ib]):z8 cj ms X {aC:=i6.aC.take (ib.aN - 1),aq:=i8,av:=λv=>if v∈i6.aC.drop (ib.aN - 1) then X+1 else i6.av v,res:=λv=>if v∈i6.aC.drop (ib.aN - 1) then i6.res ib.aj else i6.res v}:=by
 refine zY (I.π hF) λt1 t2 t3=>⟨I.nd.sublist (List.take_sublist ..),λv hv=>I.lt v (jC hv),?_,?_,?_,?_,?_,?_,?_,?_⟩
 .intro v hv h
  by_cases e:v∈i6.aC.drop (ib.aN - 1)
  .exact .inr (sI e)
  .have h:(if v∈i6.aC.drop (ib.aN - 1) then X+1 else i6.av v)≠0:=h;rw[sH e]at h
   rcases I.ě v hv h with h | h
   .rw[<- kR (ib.aN - 1) i6.aC]at h;exact .inl ((gP.mp h).resolve_right e)
   .exact .inr ((sH e).trans h)
 .intro i v h;refine xA (G8 h) λh1 h2=>(?_:(if v∈i6.aC.drop (ib.aN - 1) then X+1 else i6.av v)≠0/\(if v∈i6.aC.drop (ib.aN - 1) then X+1 else i6.av v)<=i+1/\∃w,(i6.aC.take (ib.aN - 1))[(if v∈i6.aC.drop (ib.aN - 1) then X+1 else i6.av v) - 1]?=J w/\Rs cj v w)
  refine D (sH (L2 I.nd h1 h2)) ?_
  (refine zY (I.po i v h2) λp1 p2 r9=>s9 r9 λw hw hr=>?_)
  exact(uS p1 p2 (ti w (by refine D (lD (lT (Nat.sub_le_of_le_add p2) h1)) ?_;exact hw) hr))
 .intro g hg;refine zY (I.fr g ((λg hg=>D hF (gV _ hg):∀g∈i8,g∈i6.aq) g hg)) λh1 h2 h3=>?_
  have:=I.ch;rw[hF]at this;exact(uS h1 (by refine D (lD (Nat.sub_lt_sub_right (kY h1) (((kU.mp this).2.2 g hg ib (iE _)).2))) ?_;exact h2) h3)
 .have:=I.ch;rw[hF]at this;exact(kU.mp this).1
 .intro i v h hv;refine xA (G8 h) λh1 h2=>(?_:(if v∈i6.aC.drop (ib.aN - 1) then X+1 else i6.av v)<=i)
  refine D (sH (L2 I.nd h1 h2)) (I.co i v h2 λg hg=>?_);rw[hF]at hg
  rcases gP.mp hg with hg | hg
  .exact hv g hg
  .rw[gJ]at hg;refine D hg ?_;intro e;exact(KP [] 0x52046520422 H h1 ((jq (gB.mp h2).1 I.nd).mp (h2.trans (e▸t2.symm)))).elim
 .intro e;refine(?_:i6.aC.take (ib.aN - 1)=[]);exact D (I.hd ib (D hF (D (show i8=[] from e) H))) H
 .intro g hg;refine I.hd g (D hF (D (List.head?_append) (D (hg:i8.head? = J g) ?_)));rfl
 .intro v hv t ht;have ht:(if v∈i6.aC.drop (ib.aN - 1) then i6.res ib.aj else i6.res v).testBit t=pH:=ht
  by_cases e:v∈i6.aC.drop (ib.aN - 1)
  .rw[sI e]at ht;exact s9 (L1.mp e) λi ø hi=>s9 (I.snd ib.aj (I.lt _ (gz t2)) t ht) λy h1 h2=>(ti y ((I.top hF i v hi).trans h1) h2)
  .rw[sH e]at ht;exact I.snd v hv t ht
noncomputable def XZ(n B:M)(ad:Dg):M:=wd n (λv=>if ad.av v=0 then B+2 else 0)+(ad.aq.map λib=>B+1 - ib.ah).sum
theorem L3{n:M}{B:M}(h:∀v,v<n->ht v≠0->ht' v≠0):wd n (λv=>if ht' v=0 then B+2 else 0)<=wd n (λv=>if ht v=0 then B+2 else 0):=BO λv hv=>by
 by_cases e:ht v=0
 .refine D (sI e) ?_;split<;>lia
 .exact D (sH e) (D (sH (h v hv e)) (gC _))
theorem Q7{n:M}{f:M->M}(hx:t<n)(hc:f t=X)(g:M->M)(hg:g t=0)(h:∀i,i<n->i≠t->g i=f i):wd n g+X=wd n f:=by
 induction n with
 | zero=>exact absurd hx (iF _)
 | succ n ih=>
  rw[M3,M3]
  by_cases e:t=n
  .subst e;have:wd t g=wd t f:=gZ (BO λi hi=>i5 (h i (ja hi) (tD [] 0x52046520422 H hi))) (BO λi hi=>i5 (h i (ja hi) (tD [] 0x52046520422 H hi)).symm);exact D this (D hg (D hc (gZ (tD [0] 0x290050048000481 H) (tD [0] 0x28024000a400481 H))))
  .have:=ih (Io hx e) λi hi=>h i (ja hi)
   have h2:=h n (iC n) (Ne.symm e);exact gZ (Mq [] 0x8380c520001220a111cc400443 H this h2) (Mq [] 0x62900041c01220a119cc400463 H this h2)
noncomputable def R0(f:Fr):LO:=f1 [f0 f.aj,f0 f.aN,f0 f.ah]
noncomputable def AP(F:V Fr):V (sE×LO):=F.map λf=>(f.ae,R0 f)
theorem Bn:(AP (i8++[ib]))[R i8]?=J (ib.ae,R0 ib):=by
 refine D (gG) (D (il (gC _)) (D (iI _) ?_));rfl
theorem Ng{F:V Fr}{f f':Fr}(h:f'.ae=f.ae):(AP (F++[f])).set (R F) (f.ae,R0 f')=AP (F++[f']):=by
 unfold AP;exact D gF (D gF (D (kj _ _ (D (gy _) (gC _))) (D (gy _) (D (iI _) (tj h H)))))
noncomputable def Ar(A:Ag)(c8:sE)(n:M)(ad:Dg):V (sE×LO):=
 (c8,f1 (ad.aq.map λf=>Y f.ae))::(A.aE,f1 (nL ad.aC))::(A.au,f1 (rM n λv=>f0 (ad.av v:M)))::(A.ai,f1 (rM n λv=>f0 (ad.res v:M)))::AP ad.aq
noncomputable def Og.ZA(A:Ag)(n:M)(st8:M)(c8:sE)(z:sF LV×sF LV×sF LV×sF LV):uZ:=[J (f0 n),J (Y A.ae),J (Y A.az),J (Y A.ai),J (Y A.au),J (f0 ((n:al)+1)),J (Y A.aE),J (f0 st8),J (Y c8),z.1,z.2.1,z.2.2.1,z.2.2.2]
noncomputable abbrev RX(st:LH)(lr:sE)(n B:M)(rel:M->V M)(ra:V sE):Prop:=st lr=J (f1 (ra.map Y))/\R ra=n/\(∀(i:M) a,ra[i]?=J a->st a=J (f1 (nL (rel i))))/\(∀i,i<n->∀j∈rel i,j<n)/\∀i,i<n->R (rel i)<=B
def RX.aB(h:RX s a i t cj ra):=h.1
def RX.len(h:RX s a i t cj ra):=h.2.1
def RX.ao(h:RX s a i t cj ra):=h.2.2.1
def RX.lt(h:RX s a i t cj ra):=h.2.2.2.1
def RX.az(h:RX s a i t cj ra):=h.2.2.2.2
noncomputable abbrev L4(st:LH)(A:Ag)(c8:sE)(n B:M)(rel:M->V M)(ms:M->M)(m:M)(ad:Dg)(s:LH):Prop:=sX st s (Ar A c8 n ad)/\z8 rel ms n ad/\m=XZ n B ad
def L4.ZC(h:L4 E gk c8 i t cj ms m i6 s):=h.1
def L4.aG(h:L4 E gk c8 i t cj ms m i6 s):=h.2.1
def L4.aA{n B:M}(h:L4 E gk c8 n B cj ms m i6 s):=h.2.2
theorem fg(h:s l=J (f1 (vs++[v]))):Op (qi (Y l) (f0 (-1))) s v:=λK k=>by
 exact(ti _ (.inl (ti _ h (.inr (tC (R vs) (D gK (iC _)) (by refine D gK (?_:f0 _=_);exact sJ f0 (((Int.sub_sub _ _ 1).symm.trans (sJ (· - 1) (Int.sub_self _))).symm:(-1:al)=_)) (by refine D (il (gC _)) (D (iI _) ?_);rfl))))) k)
theorem UZ(O:sX E s pre)(i:M)(e:pre[i]?=J (c,f1 (vs++[v])))(hz:R vs+1<=2 ^ 24)(k:∀s',sX E s' (pre.set i (c,f1 vs))->K v s'):L.pop [Y c] s K:=
 (uQ _ _ _ H (O.Zu i e) hz (k _ (O.set i e _)))
theorem z8.v_(I:z8 cj ms i i6):R i6.aq<=i:=by
 have:=tP (m:=gN i) (jV.mpr (I.ch.imp_of_mem λ{f g} hf hg h e=>jh h.2 (Nat.sub_one_cancel (kY (I.fr f hf).1) (lT (gE _) h.2) e)):(i6.aq.map λf=>f.aN - 1).Nodup) λv hv=>by
  exact vp v (gL.mp hv) λg hg=>iM.mpr (uy [] 0x5204a53040620423 H ((gB.mp (I.fr g hg).2.1).1) I.len)
 rw[gy,iq]at this;exact this
theorem Tq(W:L4 E gk c8 t N cj ms m i6 s)(hF:i6.aq=i8++[ib])(hk:(cj ib.aj)[ib.ah]?=J y)(hy:y<t)(h0:i6.av y=0)(hn:t<=262152)
  (hK:∀fl em s',ue (zI (λz=>Og.ZA gk t j c8 z) λø s=>∃m',m'<m/\∃D',L4 E gk c8 t N cj ms m' D' s) K' fl em s'->Kb fl em s'):zC (Og.ZA gk t j c8 (y9,J (f0 ib.aj),J (f0 y),y12)) s (A3 xf (A3 yE Kb)):=by
 have O:=W.ZC;refine cU O 1 H (Z H) (Z H) (D (sU _) (tD [262152,16777215] 0x424090a40800128403 H hn W.aG.len)) λs O=>?_
 rw[wQ]at O;have el:(R (nL (i6.aC++[y])):al)=(R i6.aC+1:M):=D (sU _) (D gK H);refine dF O 2 y H (y:=f0 (R i6.aC+1:M)) (tj el (rJ (cE (Z H) cF) (sa (O.Zu 1 H:s gk.aE=J (f1 (nL (i6.aC++[y]))))))) (Z H) (Z H) (D uJ hy) λs O=>?_
 rw[BN]at O
 have ev:NX (pL (U 11) (pL (rz qN (pL (U 6) pK)) (pL (pG (f0 0)) pK))) (Og.ZA gk t j c8 (y9,J (f0 ib.aj),J (f0 y),y12)) s [f0 y,f0 (R i6.aC+1:M),f0 0]:=
  cE (Z H) (cE (tj el (rJ (cE (Z H) cF) (sa (O.Zu 1 H:s gk.aE=J (f1 (nL (i6.aC++[y]))))))) (cE rD cF))
 refine dD (dA (Z (v:=Y c8) H _ ⟨dk (O.Zu 0 H:s c8=J (f1 (i6.aq.map λib=>Y ib.ae))),cC (ev _ ⟨gQ H,λa ha=>cH ?_⟩)⟩));have O:=O.new (o:=R0 ⟨a,y,R i6.aC+1,0⟩) ha;refine dP (O.Zu 1 H) (D (gy _) (tD [262152,16777215] 0x424090a40800128403 H hn W.aG.v_)) ?_;have O:=O.set 1 H (f1 ((i6.aq.map λib=>Y ib.ae)++[Y a]));refine sP (hK .cont _ _ (vA (y9,J (f0 ib.aj),J (f0 y),y12) H _ ?_ ⟨{i6 with aC:=i6.aC++[y],aq:=i6.aq++[⟨a,y,R i6.aC+1,0⟩],av:=vm i6.av y (R i6.aC+1)},?_,W.aG.push hy h0 (.inr (w1 i8 ib hF (gz hk))),H⟩))
 .refine D W.aA (?_:wd t (λv=>if vm i6.av y (R i6.aC+1) v=0 then N+2 else 0)+((i6.aq++[Fr.mk a y (R i6.aC+1) 0]).map λib:Fr=>N+1 - ib.ah).sum<_);exact D (D gF (D nY H):((i6.aq++[Fr.mk a y (R i6.aC+1) 0]).map λib:Fr=>N+1 - ib.ah).sum=(i6.aq.map λib=>N+1 - ib.ah).sum+(N+1)) (Dp [2,1] 0x14e0084c028080094e00980400442 H (Q7 (n:=t) (f:=λv=>if i6.av v=0 then N+2 else 0) hy (sI h0) (λv=>if vm i6.av y (R i6.aC+1) v=0 then N+2 else 0) (D Kf (D (sH (kT _)) H)) λi hi ne=>D (D5 ne) H))
 .have e:AP (i6.aq++[⟨a,y,R i6.aC+1,0⟩])=AP i6.aq++[(a,R0 ⟨a,y,R i6.aC+1,0⟩)]:=by unfold AP;exact D gF H
  unfold Ar;dsimp only;refine D e (D gF ?_);have hp:=G6 (l4:=[(a,R0 ⟨a,y,R i6.aC+1,0⟩)]) (X:=[(c8,f1 ((i6.aq.map λib=>Y ib.ae)++[Y a])),(gk.aE,f1 (nL (i6.aC++[y]))),(gk.au,f1 (rM t λv=>f0 (vm i6.av y (R i6.aC+1) v:M))),(gk.ai,f1 (rM t λv=>f0 (i6.res v:M)))]) (F:=AP i6.aq) (bi:=[]) (kQ _);rw[gY,gY]at hp;exact sX.perm O hp
theorem Ib{g:Fr->M}:((i8++[ib]).map g).sum=(i8.map g).sum+g ib:=D gF (D nY (sJ _ (mw _)))
theorem Tr(hX:RX E gk.ae i t cj ra)(W:L4 E gk c8 i t cj ms m i6 s)(hF:i6.aq=i8++[ib])(hk:(cj ib.aj)[ib.ah]?=J y)(hy:y<i)(h0:i6.av y≠0)
  (hK:∀fl em s',ue (zI (λz=>Og.ZA gk i X c8 z) λø s=>∃m',m'<m/\∃D',L4 E gk c8 i t cj ms m' D' s) TW fl em s'->Kb fl em s') (Ū:∀ρ s,K' .cont ρ s=Kb .cont ρ s):xf (Og.ZA gk i X c8 (J (Y ib.ae),J (f0 ib.aj),J (f0 y),y12)) s K':=by
 obtain ⟨Fk,FF,ht,res⟩:=i6;subst (hF:FF=i8++[ib]);have hx:ib.aj<i:=W.aG.lt _ (gz (W.aG.π H).2.1);have H!:=(gB.mp hk).1;have O:=W.ZC;have I?:(Ar gk c8 i ⟨Fk,i8++[ib],ht,res⟩)[R i8+4]?=J (ib.ae,R0 ib):=Bn;refine dF O (R i8+4) 2 I? (y:=f0 (ib.ah+1:M)) (rE (rE (Z H) rD (r5 (n:=2) (O.Zu _ I?) H)) rD rU) (Z H) rD (gC 3) λs O=>?_
 have e0:(Ar gk c8 i ⟨Fk,i8++[ib],ht,res⟩).set (R i8+4) (ib.ae,f1 ([f0 ib.aj,f0 ib.aN,f0 ib.ah].set 2 (f0 (ib.ah+1:M))))=Ar gk c8 i ⟨Fk,i8++[({ib with ah:=ib.ah+1}:Fr)],ht,res⟩:=by
  unfold Ar;dsimp only;exact tj (Ng (F:=i8) (f:=ib) (f':={ib with ah:=ib.ah+1}) H) (D (D gF (D gF H):(i8++[ib]).map (λib:Fr=>Y ib.ae)=(i8++[({ib with ah:=ib.ah+1}:Fr)]).map λib:Fr=>Y ib.ae) H)
 rw[e0]at O
 have m?:∀s,sX E s (Ar gk c8 i ⟨Fk,i8++[({ib with ah:=ib.ah+1}:Fr)],if ht y<ht ib.aj then vm ht ib.aj (ht y) else ht,res⟩)->qo (qB (U 3) (U 10) (pI qa (pI qi (U 3) (U 10)) (pI qi (U 3) (U 11)))) (qo qu qm) (Og.ZA gk i X c8 (J (Y ib.ae),J (f0 ib.aj),J (f0 y),y12)) s K':=λs O=>by
  refine dF O 3 ib.aj H (y:=f0 (res ib.aj|||res y:M)) (rE (rE (Z H) (Z H) (r5 (O.Zu 3 H) (ux (f:=λv=>f0 (res v:M)) hx))) (rE (Z H) (Z H) (r5 (O.Zu 3 H) (ux (f:=λv=>f0 (res v:M)) hy))) sj) (Z H) (Z H) (D uJ hx) λs O=>?_
  rw[BN]at O;refine cJ (Eq.mpr (Ū _ _) (hK .cont _ _ (vA (J (Y ib.ae),J (f0 ib.aj),J (f0 y),y12) H _ ?_ ⟨⟨Fk,i8++[({ib with ah:=ib.ah+1}:Fr)],if ht y<ht ib.aj then vm ht ib.aj (ht y) else ht,vm res ib.aj (res ib.aj|||res y)⟩,O,(W.aG.Ι H hk hy h0),H⟩)));refine D W.aA ?_;unfold XZ;dsimp only;refine D Ib (D Ib ?_)
  have h1:=L3 (n:=i) (ht:=ht) (ht':=if ht y<ht ib.aj then vm ht ib.aj (ht y) else ht) (B:=t) λv hv Z0=>by
   split
   .unfold vm;split
    .exact h0
    .exact Z0
   .exact Z0
  exact YU [1] 0x10501c06280800940150128004600a8000a4060044720404 H (h1:wd i (λv=>if (if ht y<ht ib.aj then vm ht ib.aj (ht y) else ht) v=0 then t+2 else 0)<=wd i (λv=>if ht v=0 then t+2 else 0)) (gO (uy [1] 0x2600024004862840520423 H H! (hX.az ib.aj hx))) (gO (uy [1] 0x4c028480098000940400442 H (gO (uy [1] 0x2600024004862840520423 H H! (hX.az ib.aj hx)))))
 have b2:=ux (f:=λv=>f0 (ht v:M)) hy;refine cL (rL (rE (Z H) (Z H) (r5 (O.Zu 2 H) b2)) (rE (Z H) (Z H) (r5 (O.Zu 2 H) (ux (f:=λv=>f0 (ht v:M)) hx))) rX) (λq=>?_) λq=>sP ?_
 .have q:ht y<ht ib.aj:=g8.mp (sQ q);refine dF O 2 ib.aj H (y:=f0 (ht y:M)) (rE (Z H) (Z H) (r5 (O.Zu 2 H) b2)) (Z H) (Z H) (D uJ hx) λs O=>m? s ?_
  rw[BN]at O;exact D (sI q) O
 .exact m? s (D (sH (λh=>sW q (g8.mpr h):¬ ht y<ht ib.aj)) O)
noncomputable def hj(Fk:V M)(j c:M)(g:M->M):M->M:=λv=>if v∈Fk.drop j then c else g v
theorem Q8:hj w (R w) i F=F:=by
 funext v;unfold hj;exact D l5 (D (sH (jY)) H)
theorem Q9(h:ts[j]?=J t):vm (hj ts (j+1) i F) t i=hj ts j i F:=by
 refine xE (gB.mp h) λGc e=>?_
 funext v
 unfold vm hj;refine D (jk Gc) (D e ?_)
 by_cases q:v=t
 .exact D (sI q) (D (sI (q▸gI)) H)
 .refine D (sH q) ?_
  by_cases r:v∈ts.drop (j+1)
  .exact D (sI r) (D (sI (gH _ r)) H)
  .exact D (sH r) (D (sH λm=>(gX.mp m).elim q r) H)
noncomputable def YG.ZA(A:Ag)(n st8:M)(c8:sE)(f:Fr)(y11:sF LV)(l:al):uZ:=Og.ZA A n st8 c8 (J (Y f.ae),J (f0 f.aj),y11,J (f0 l))
noncomputable def Xp(A:Ag)(n:M)(Fk:V M)(ht res:M->M)(x j:M)(c8:sE)(F:V Fr):V (sE×LO):=Ar A c8 n ⟨Fk.take j,F,hj Fk j (n+1) ht,hj Fk j (res x) res⟩
theorem Ts{K:KS}(I:z8 cj ms i ⟨ts,i8++[ib],ht,ht'⟩)(hn:i<=262152)(O:sX E s (Xp gk i ts ht ht' ib.aj (R ts) c8 i8)){y12:sF LV}
  (k:∀l s',sX E s' (Xp gk i ts ht ht' ib.aj (ib.aN - 1) c8 i8)->K .next (YG.ZA gk i X c8 ib y11 l) s'):Ai (YG.ZA gk i X c8 ib y11 (-1)) s K:=by
 refine zY (I.π H) λt1 t2 t3=>?_
 have ZY:ib.aN - 1<R ts:=(gB.mp t2).1;refine L.Do (loc:=YG.ZA gk i X c8 ib y11) (z0:=-1) (m0:=R ts) (λm l s=>sX E s (Xp gk i ts ht ht' ib.aj m c8 i8)/\ib.aN - 1<=m/\m<=R ts/\((m=R ts/\l=-1)\/∃w:M,ts[m]?=J w/\l=w)) (AV O (iG ZY) (gC _) (.inl ⟨H,H⟩)) λm l s rC=>?_
 refine D9 rC λO h1 h2 h3=>?_
 refine(tC _ (rL (Z H) (Z H) r4) (λq Kb hK=>?_) (λq=>?_))
 .have q:l≠ib.aj:=by simpa using q
  have hm:ib.aN - 1<m:=by
   rcases kq h1 with h | h
   .exact h
   .subst h
    rcases h3 with ⟨h,_⟩ | ⟨w,h,e⟩
    .exact tD [] 0x4204a52046520423 H ZY h
    .obtain rfl:=gv (t2.symm.trans h);exact absurd e q
  (refine xE (⟨m - 1,by exact gZ (tD [1] 0x25010242002500462 H (gO (tD [1] 0x800848428422 H hm))) (tD [1] 0x1001280242002500442 H (gO (tD [1] 0x800848428422 H hm)))⟩ : ∃m',m=m'+1) λm e9=>?_;subst e9)
  have hw:=gM (show m<R ts by exact tD [1] 0x290252802400402 H h2);generalize ts[m]=w at hw;have lm:(Xp gk i ts ht ht' ib.aj (m+1) c8 i8)[1]?=J (gk.aE,f1 (nL (ts.take m)++[f0 (w:M)])):=tj (D (tF hw) (D (wQ _ _) H):nL (ts.take (m+1))=nL (ts.take m)++[f0 (w:M)]) H;refine cQ (dA (Z (v:=Y gk.aE) H _ ⟨dk (O.Zu 1 lm),cH (UZ O 1 lm (by rw[sU,iA];exact gA (jO (iT _ _)) (gA (jO (gA (I.len:R ts<=i) hn)) (by decide))) λs O=>sP ?_)⟩));refine dF O 2 w H (y:=f0 (i+1:M)) (Z H) (Z H) (Z H) (D uJ (I.lt w (gz hw))) λs O=>?_
  rw[BN,show(λt=>f0 ((if t=w then i+1 else hj ts (m+1) (i+1) ht t:M):al))=λt=>f0 ((hj ts m (i+1) ht t:M):al) from funext λt=>sJ (λg:M->M=>f0 (g t:M)) (Q9 hw)]at O;have h3:=O.Zu 3 H;have a1:=ux (f:=λv=>f0 (hj ts (m+1) (ht' ib.aj) ht' v:M)) (I.lt _ (gz t2):ib.aj<i);have e2:hj ts (m+1) (ht' ib.aj) ht' ib.aj=ht' ib.aj:=by unfold hj;split<;>rfl
  rw[e2]at a1;refine dF O 3 w H (y:=f0 (ht' ib.aj:M)) (rE (Z H) (Z H) (r5 h3 a1)) (Z H) (Z H) (D uJ (I.lt w (gz hw))) λs O=>?_
  rw[BN,show(λt=>f0 ((if t=w then ht' ib.aj else hj ts (m+1) (ht' ib.aj) ht' t:M):al))=λt=>f0 ((hj ts m (ht' ib.aj) ht' t:M):al) from funext λt=>sJ (λg:M->M=>f0 (g t:M)) (Q9 hw)]at O;exact hK .next _ _ (xy (w:al) H m (iC _) O (uS (tD [1] 0x29024004a020422 H hm) (tD [1] 0x290242802400402 H h2) (.inr (ti w hw H))))
 .have q:l=ib.aj:=by simpa using q
  have hm:m=ib.aN - 1:=by
   rcases h3 with ⟨_,e⟩ | ⟨w,h,e⟩
   .exact absurd (ig ib.aj) (by rw[<- q,e];decide)
   .have:w=ib.aj:=iQ (e.symm.trans q);subst this;exact(jq (gB.mp h).1 I.nd).mp (h.trans t2.symm)
  subst hm;exact k l s O
theorem VV(W:L4 E gk c8 i X cj ms m ⟨w,i8++[ib],ht,ht'⟩ s)(hX:RX E gk.ae i X cj ra)(hn:i<=262152)
  (hK:∀fl em s',ue (zI (λz=>Og.ZA gk i N c8 z) λø s=>∃m',m'<m/\∃D',L4 E gk c8 i X cj ms m' D' s) K' fl em s'->Kb fl em s'):yE (Og.ZA gk i N c8 (J (Y ib.ae),J (f0 ib.aj),y11,y12)) s Kb:=by
 have I:=W.aG;refine zY (I.π H) λt1 t2 t3=>?_
 have A!:=I.v_;rw[gK]at A!;have hx:ib.aj<i:=I.lt _ (gz t2);have O:=W.ZC
 have h8:(Ar gk c8 i ⟨w,i8++[ib],ht,ht'⟩)[0]?=J (c8,f1 ((i8.map λib=>Y ib.ae)++[Y ib.ae])):=by
  unfold Ar;dsimp only;exact D gF H
 refine dD (dA (Z (v:=Y c8) H _ ⟨dk (O.Zu 0 h8),cH (UZ O 0 h8 (by exact D (gy _) (uy [262152,1,16777216] 0x1042120024298800800128403 H hn A!)) λs O=>sP ?_)⟩))
 have O2:sX E s (Ar gk c8 i ⟨w,i8,ht,ht'⟩):=by
  refine O.sub (l':=Ar gk c8 i ⟨w,i8,ht,ht'⟩) (.cons_cons _ (.cons_cons _ (.cons_cons _ (.cons_cons _ ?_))));unfold AP;exact D gF (ph ..)
 have less:XZ i X ⟨w,i8,ht,ht'⟩ < m:=by
  refine D W.aA ?_;unfold XZ;dsimp only;exact D Ib (Wq [1] 0x314040148009401480e6004694040838404 H t3 (hX.az ib.aj hx) (gO (uy [1] 0x4c0204862840520403 H t3 (hX.az ib.aj hx))))
 refine cL (t:=b8 (((ht ib.aj:M):al)=(ib.aN:M))) (rL (rE (Z H) (Z H) (r5 (O2.Zu 2 H) (ux (f:=λv=>f0 (ht v:M)) hx))) (rE (Z H) rD (r5 (n:=1) (O.Zu (R i8+4) Bn:s ib.ae=J (R0 ib)) H)) rZ) (λq=>?_) λq=>sP ?_
 .refine cI (v:=f0 (-1)) (rF rD rW) (sP (Ts (y12:=sD) (K:=A3 qm Kb) I hn (by unfold Xp;exact D ic (D Q8 (D Q8 O2))) λl s O=>sP ?_));refine hK .next _ _ (vA (J (Y ib.ae),J (f0 ib.aj),y11,J (f0 l)) H _ (lT ?_ less) ⟨_,O,I.root H,H⟩);exact pj (L3 λv hv Z0=>by dsimp only[hj];split;exact kT _;exact Z0) _
 .exact hK .next _ _ (vA (J (Y ib.ae),J (f0 ib.aj),y11,y12) H _ less ⟨_,O2,I.Z! H (λe=>sW q (D e H):ht ib.aj≠ib.aN),H⟩)
noncomputable abbrev Z4:=sF LV×sF LV×sF LV×sF LV
theorem Tt(W:L4 E gk c8 i X cj ms m i6 s)(hX:RX E gk.ae i X cj ra)(hn:i<=262152)(Z0:i6.aq≠[]){z:Z4}
  (hK:∀fl em s',ue (zI (λz=>Og.ZA gk i N c8 z) λø s=>∃m',m'<m/\∃D',L4 E gk c8 i X cj ms m' D' s) K' fl em s'->Kb fl em s'):zD (Og.ZA gk i N c8 z) s Kb:=by
 obtain ⟨Fk,FF,ht,res⟩:=i6
 refine KC (by
  rcases List.eq_nil_or_concat FF with h | ⟨F,f,h⟩
  .exact absurd h Z0
  .exact(KD F f (D h (D List.concat_eq_append H))):∃F f,FF=F++[f]) λF f hF=>?_
 subst hF;have hx:f.aj<i:=W.aG.lt _ (gz (W.aG.π H).2.1);have O:=W.ZC;refine xE (⟨_,gM (hX.len▸hx)⟩ : ∃b,ra[f.aj]?=J b) λb hb=>?_
 refine cI (v:=Y f.ae) (rE (Z H) (rF rD rW) (fg (O.Zu 0 (by unfold Ar;dsimp only;exact D gF H):s c8=J (f1 ((F.map λf=>Y f.ae)++[Y f.ae]))))) (sP (cJ (cI (v:=f0 (f.aj:M)) (rE (Z H) rD (r5 (n:=0) (O.Zu (R F+4) Bn) H)) (sP (cL (t:=b8 ((f.ah:al)<(R (cj f.aj):M))) (rL (rE (Z H) rD (r5 (n:=2) (O.Zu (R F+4) Bn) H)) (rJ (cE (rE (Z H) (Z H) (r5 (O.le _ _ hX.aB) (vl hb))) cF) (by exact tj (D (sU _) H:(R (nL (cj f.aj)):al)=(R (cj f.aj):M)) (sa (O.le _ _ (hX.ao _ _ hb))))) rX) (λq=>?_) λq=>sP (VV (y12:=z.2.2.2) (y11:=z.2.2.1) W hX hn hK))))));have q:f.ah<R (cj f.aj):=g8.mp (sQ q);have hk:=gM q;generalize (cj f.aj)[f.ah]=y at hk;have hy:=hX.lt f.aj hx y (gz hk);refine cI (v:=f0 (y:M)) (rE (rE (Z H) (Z H) (r5 (O.le _ _ hX.aB) (vl hb))) (rE (Z H) rD (r5 (n:=2) (O.Zu (R F+4) Bn) H)) (r5 (O.le _ _ (hX.ao _ _ hb)) (xk hk))) (sP (cL (t:=b8 (((ht y:M):al)=0)) (rL (rE (Z H) (Z H) (r5 (O.Zu 2 H) (ux (f:=λv=>f0 (ht v:M)) hy))) rD rZ) (λh0=>Tq (y9:=J (Y f.ae)) (y12:=z.2.2.2) W H hk hy (ER h0) hn hK) λh0=>sP ?_));exact Tr hX W H hk hy (λe=>sW h0 (D e H):ht y≠0) hK λρ s=>rfl
theorem Ra{st8:M}(W:L4 E gk c8 i t cj ms m i6 s)(hX:RX E gk.ae i t cj ra)(hn:i<=262152){z:Z4}(k:∀D' z s',D'.aq=[]->z8 cj ms i D'->sX E s' (Ar gk c8 i D')->K' .next (Og.ZA gk i st8 c8 z) s'):qw (pQ (U 8)) zD (Og.ZA gk i st8 c8 z) s K':=by
 refine L.Do (loc:=λz=>Og.ZA gk i st8 c8 z) (z0:=z) (λm z s=>∃i6,L4 E gk c8 i t cj ms m i6 s) ⟨i6,W⟩ λm z s I=>xE I λi6 W=>(tC _ (EvB.tvl (Z H) (W.ZC.Zu 0 H:s c8=J (f1 (i6.aq.map λf=>Y f.ae)))) (λq Kb hK=>Tt W hX hn (λe=>?_) hK) (λq=>k i6 z s ?_ W.aG W.ZC))
 .rw[e]at q;exact ft q
 .cases e:i6.aq with
  | nil=>rfl
  | cons a l=>rw[e]at q;exact tf q
noncomputable def X1.ZA(A:Ag)(n:M)(z:sF LV×sF LV×Z4):uZ:=[J (f0 n),J (Y A.ae),J (Y A.az),J (Y A.ai),J (Y A.au),J (f0 ((n:al)+1)),J (Y A.aE),z.1,z.2.1,z.2.2.1,z.2.2.2.1,z.2.2.2.2.1,z.2.2.2.2.2]
noncomputable def Rb(A:Ag)(n:M)(ht res:M->M):V (sE×LO):=[(A.aE,f1 (nL [])),(A.au,f1 (rM n λv=>f0 (ht v:M))),(A.ai,f1 (rM n λv=>f0 (res v:M)))]
theorem Rc(hi:i<X)(hX:RX E gk.ae X m cj ra)(hn:X<=262152){res:M->M}(I:z8 cj ms X ⟨[],[],ht,res⟩)(O:sX E s (Rb gk X ht res)){z:sF LV×sF LV×Z4}
  (hK:∀fl em s',ue (zI (X1.ZA gk X) λz s=>∃ht res,z8 cj ms X ⟨[],[],ht,res⟩/\sX E s (Rb gk X ht res)) Kb fl em s'->K' fl em s'):EA ((X1.ZA gk X z).set 7 (J (f0 i))) s K':=by
 refine cL (t:=!b8 (((ht i:M):al)=0)) (rL (rE (Z H) (Z H) (r5 (O.Zu 1 H) (ux (f:=λv=>f0 (ht v:M)) hi))) rD r4) (λh0=>?_) λh0=>sP ?_
 .exact cJ (hK .cont _ _ (Ir (J (f0 i),z.2.1,z.2.2) H ht (ti res I O)))
 refine cU O 0 H (Z H) (Z H) (gE _) λs O=>dF O 1 i H (y:=f0 (1:M)) (rJ (cE (Z H) cF) (sa (O.Zu 0 H))) (Z H) (Z H) (D uJ hi) λs O=>?_
 rw[BN]at O
 have ev:NX (pL (U 7) (pL (rz qN (pL (U 6) pK)) (pL (pG (f0 0)) pK))) ((X1.ZA gk X z).set 7 (J (f0 i))) s [f0 i,f0 (1:M),f0 0]:=
  cE (Z H) (cE (rJ (cE (Z H) cF) (sa (O.Zu 0 H))) (cE rD cF))
 refine cQ (cV (cC (cV (ev _ ⟨gQ H,λa ha=>cH ⟨gQ H,λc8 W1=>sP ?_⟩⟩))));refine Ra (st8:=i) (z:=z.2.2) (⟨sX.perm ((O.new (o:=R0 ⟨a,i,1,0⟩) ha).new (o:=f1 [Y a]) W1) (md _ ((lJ (l₁:=[(a,R0 ⟨a,i,1,0⟩)]) (l₂:=[(gk.aE,f1 (nL [i])),(gk.au,f1 (rM X λv=>f0 (vm ht i 1 v:M))),(gk.ai,f1 (rM X λv=>f0 (res v:M)))])))),I.push hi (ER (by rw[nQ]at h0;exact h0):ht i=0) (.inl H),H⟩ : L4 E gk c8 X m cj ms _ ⟨[i],[⟨a,i,1,0⟩],vm ht i 1,res⟩ _) hX hn λD' z' s' e I' O'=>sP ?_
 obtain ⟨Fk,F,ht',Y_⟩:=D';subst (e:F=[]);have hp:Fk=[]:=I'.bot H;subst hp;exact hK .next _ _ (Ir (J (f0 i),J (Y c8),z') H ht' (ti Y_ I' O'.tail))
theorem Jh(hX:RX E a m N cj ra)(hm:E g=J (f1 (rM m λv=>f0 (ms v:M))))(hn:m<=262152)(k:∀res,Y5 cj ms m res->RL E K (rM m λv=>f0 (res v:M))):zg [f0 m,Y a,Y g] E K:=by
 refine MR (eK (sX.init E) (Z H) hm (D uJ (D sS (tY [262152,16777216] 0x4240900120402 H hn))) λc3 s O=>(cQ (eh (n:=m) O rD (λs' le=>Z H) (tY [262152,16777216] 0x4240900120402 H hn) λc4 s O=>sP ?_)));have e0:hU m (f0 0)=rM m λX=>f0 ((λø=>0:M->M) X:M):=by unfold rM;exact D lE (D iq H)
 rw[e0]at O;refine cI (rE (Z H) rD rU) (sP (dC O λc6 s O=>(dH (loc:=X1.ZA ⟨a,g,c6,c4,c3,0,[],[]⟩ m) (z0:=(sD,sD,sD,sD,sD,sD)) (λi z s=>∃ht res,z8 cj ms m ⟨[],[],ht,res⟩/\sX E s (Rb ⟨a,g,c6,c4,c3,0,[],[]⟩ m ht res)) (Z H) (tY [262152,1099511627776] 0x4240900120402 H hn) (w1 (λø=>0) ms ?_ O) (λi z s K' hi I hK=>?_) λz s I=>sP ?_)))
 .exact⟨iU,λv h=>uG h,λv ø h=>absurd rfl h,λi v h=>(uH h),λf h=>uG h,.nil,λi v h=>(uH h),λø=>rfl,λf h=>(uH h),λv hv t ht=>(tC v (.refl v) hv ht)⟩
 .exact vX I λht res I O=>Rc hi hX hn I O hK
 .exact vX I λht res I O=>cP (Z H) (k res I.snd c3 s O.le (O.fr 2 H) (O.Zu 2 H))
noncomputable def R3(be:V ((M×M)×M)):V (LV×LV):=dT (λe=>[e.1.1,e.1.2]) (λe=>f0 (e.2:M)) be
noncomputable abbrev Wx(ZO:V ((M×M)×sE))(lr:M->V M)(fm:M->M)(i:M)(be:V ((M×M)×M)):Prop:=be.map (·.1)=(ZO.take i).map (·.1)/\∀(j:M) k m,be[j]?=J (k,m)->∀t,m.testBit t=pH->∃x∈lr j,(fm x).testBit t=pH
def Wx.keys{ZO:V ((M×M)×sE)}(h:Wx ZO cj F i be):=h.1
def Wx.ay{ZO:V ((M×M)×sE)}(h:Wx ZO cj F i be):=h.2
theorem fO{α:Type}{key:α->V M}{val:α->LV}{xs:V α}(hl:s l=J (Da od (dT key val xs)))(hn:(xs.map key).Nodup){q:α}(hq:q∈xs):Op (qi (Y l) (f2 (nL (key q)))) s (val q):=λK k=>(ti _ (.inr (tC _ (.inr ⟨_,hl⟩) (.atoms G5 (EY _)) (Nc hn hq))) k)
theorem Tu:[p.1,p.2]∈be.map (λe=>[e.1.1,e.1.2])<->p∈be.map (·.1):=by
 refine AU gL (AU gL ?_)
 constructor
 .rintro ⟨⟨⟨a,b⟩,c⟩,h,e⟩;cases p;cases e;exact(ti _ h H)
 .rintro ⟨⟨⟨a,b⟩,c⟩,h,e⟩;subst e;exact(ti _ h H)
theorem Pp{α:Type}{q:V α}{u:α}(hq:q[i]?=J u)(nd:q.Nodup):u∉q.take i:=λhm=>by
 refine xE (ie hm) λj hj=>?_
 have Gc:=(gB.mp hj).1;rw[iA]at Gc;have l:=ij Gc (jK ..);exact jh l ((jq (ij Gc (iT ..)) nd).mp (((lD l).symm.trans hj).trans hq.symm))
noncomputable def Y6.ZA(e c:sE)(z:sF LV×sF LV×sF LV):uZ:=[J (Y e),J (Y c),z.1,z.2.1,z.2.2]
theorem Ic{fmA:sE}{l:V (sE×LO)}{ZO:V ((M×M)×sE)}{lr:M->V M}{fm:M->M}{n:M}(nd:(ZO.map (·.1)).Nodup)(hlen:R ZO<=1000000)(h8:fs[8]?=J (Y nu))(Í:fs[10]?=J (Y fmA))(Ħ:∀(j:M) k a,ZO[j]?=J (k,a)->E a=J (f1 (nL (lr j)))/\∀x∈lr j,x<n)(ŷ:E fmA=J (f1 (rM n λv=>f0 (fm v:M))))
  (O:sX E s ((g,f4 500 d fs)::(nu,f8 (Ip ZO))::l)) (k:∀be c s',Wx ZO lr fm (R ZO) be->sX E s' ((c,f8 (R3 be))::(g,f4 500 d fs)::(nu,f8 (Ip ZO))::l)->K (Y c) s'):uA [Y g] s K:=by
 refine zE (eu O λc s O=>(eZ (loc:=Y6.ZA g c) (z0:=(sD,sD,sD)) O (i0:=2) H (rH (Z H) (rT (O.Zu 1 H:s g=J (f4 500 d fs)) h8)) (λo i z s=>∃be,Wx ZO lr fm i be/\sX E s ((c,f8 (R3 be))::(g,f4 500 d fs)::(nu,Da o (Ip ZO))::l)) (λo s O=>⟨[],⟨H,λj k m h=>uH h⟩,O⟩) (λo i z s ZN=>s9 ZN λø ø O=>O.Zu 2 H) (λo i kv z s K' SC I hK=>?_) λo z s I=>sP ?_))
 .refine s9 I λbe P O=>WK kv (by
   unfold Ip dT at SC;rw[gG]at SC;obtain ⟨⟨k0,b⟩,h1,h2⟩:=gR.mp SC;exact(w1 k0 b h1 h2.symm):∃k0 b,ZO[i]?=J (k0,b)/\kv=(f2 (nL [k0.1,k0.2]),Y b)) λk0 b hj=>?_
  have ū:R be<=1000000:=by
   have:=sJ jr P.keys;rw[gy,gy,iA]at this;exact D this (gA (iT _ _) hlen)
  have UF:k0∉be.map (·.1):=λhm=>by
   rw[P.keys,mW]at hm;exact Pp (by refine D (gG) (D hj ?_);rfl) nd hm
  refine cI rD (sP (cJ (dq (loc:=λz:M×sF LV=>Y6.ZA g c (J (f2 (nL [k0.1,k0.2])),J (f0 (z.1:M)),z.2)) (z0:=(0,z.2.2)) (λj z s=>(∀t,z.1.testBit t=pH->∃x∈lr i,(fm x).testBit t=pH)/\sX E s ((c,f8 (R3 be))::(g,f4 500 d fs)::(nu,Da o (Ip ZO))::l)) (rE (rH (Z H) (rT (O.Zu 1 H:s g=J (f4 500 d fs)) h8)) (Z H) (fO (key:=λg:(M×M)×sE=>[g.1.1,g.1.2]) (val:=λg=>Y g.2) (q:=(k0,b)) (O.Zu 2 H:s nu=J (Da o (Ip ZO))) (Q6 nd) (gz hj):Op (qi (Y nu) (f2 (nL [k0.1,k0.2]))) s (Y b))) (λj z s I=>I.2.le _ _ (Ħ i k0 b hj).1) ⟨λt ht=>(by rw[kO]at ht;exact ft ht),O⟩ (λj v z s K1 hv I ZW=>?_) λz s I=>sP ?_)))
  .refine xA I λI O=>Bt v (wa hv) λy hy=>cI (v:=f0 (z.1|||fm y:M)) (rE (Z H) (rE (rH (Z H) (rT (O.Zu 1 H:s g=J (f4 500 d fs)) Í)) (Z H) (r5 (O.le _ _ ŷ) (ux (f:=λv=>f0 (fm v:M)) ((Ħ i k0 b hj).2 y (gz hy))))) sj) (ZW .next _ _ (tC (z.1|||fm y,J (f0 (y:M))) H (λt ht=>?_) O))
   have ht:(z.1|||fm y).testBit t=pH:=ht;rw[jt,jo]at ht;exact ht.elim (I t) λh=>(ti y (gz hy) h)
  .refine xA I λI O=>cJ (Z (v:=f0 (z.1:M)) H _ (Z (v:=Y c) H _ (Z (v:=f2 (nL [k0.1,k0.2])) H _ (ti _ (xZ (key:=λg:(M×M)×M=>[g.1.1,g.1.2]) (val:=λg=>f0 (g.2:M)) (xs:=be) (O.Zu 0 H) (tY [1000000,10000000] 0x4240900120402 H ū) (λhm=>UF (Tu.mp hm))) (hK .next _ _ (vA (J (f2 (nL [k0.1,k0.2])),J (f0 (z.1:M)),z.2) H (be++[(k0,z.1)]) ⟨?_,λj k m h=>?_⟩ ?_))))))
   .exact D gF (D P.keys (D (tF hj) (D gF H)))
   .have hl:R be=i:=by
     have:=sJ jr P.keys;rw[gy,gy,iA,iO (iG (gB.mp hj).1)]at this;exact this
    rcases iZ j (R be) with q | q
    .rw[hV q]at h;exact P.ay j k m h
    .rw[il q,mT]at h
     split at h
     .cases h;exact D (gZ (gA (pe (show j - R be=0 by assumption)) (i5 hl)) (gA (i5 hl.symm) q):j=i) I
     .exact uH h
   .have O:=O.set 0 H (f8 (R3 be++[(f2 (nL [k0.1,k0.2]),f0 (z.1:M))]));have e2:R3 (be++[(k0,z.1)])=R3 be++[(f2 (nL [k0.1,k0.2]),f0 (z.1:M))]:=by unfold R3 dT;exact D gF H
    exact D e2 O
 .refine s9 I λbe P O=>?_
  have el:R (Ip ZO)=R ZO:=QV;rw[el]at P;exact cP (Z H) (k be c _ P (O.set 2 H (f8 (Ip ZO))))
noncomputable def YH(G:Gm)(S:V SR)(i j:M):Prop:=∃p q sC,(vW G.aa 0 S)[i]?=J p/\vn S p.1 p.2=J q/\Gl G sC/\(vW G.aa 0 S)[j]?=J (q,sC)
noncomputable def X4(G:Gm)(S:V SR)(t i:M):Prop:=∃p q r,(vW G.aa 0 S)[i]?=J p/\vn S p.1 p.2=J q/\t<G.aa/\S[q]?=J r/\t∈r.xs
theorem Rs.st(h:∀i,∀y∈cj i,P i y)(r:Rs cj i y):St P i y:=St.ind r .refl λm ih=>.step (h _ _ m) ih
noncomputable abbrev F7(G:Gm)(S:V SR)(be:V ((M×M)×M)):Prop:=(be.map (·.1)).Nodup/\(∀q t,(q,t)∈be.map (·.1)<->∃r,S[q]?=J r/\t∈r.rs)/\∀k m,(k,m)∈be->∀t,m.testBit t=pH->∃x y w,Xo G S k x/\St (IG G S) x y/\St (YH G S) y w/\X4 G S t w
def F7.nd(h:F7 G S be):=h.1
def F7.keys(h:F7 G S be):=h.2.1
def F7.ay(h:F7 G S be):=h.2.2
theorem GP{A:Al}(hF:G.ZU)(h:GX E A.aD G A.aj)(B:x4 G S)(hA:AX E A.ae A.aD A.bR A.ls G S)(hL:LX E G S A.a7 A.aZ A.bB)(h6:E A.inc=J (f1 (A.a8.map Y)))(h7:E A.bD=J (f1 (A.ut.map Y)))(TD:R A.a8=R (vW G.aa 0 S))(ł:R A.ut=R (vW G.aa 0 S))
  (O:sX E s (E0 A.ai A.au A.bf A.aR [] (λø=>[]) (u4 A.a8 (λø=>[])++(u4 A.ut (λø=>[])++A.aB)))) (k:∀ZO z3 s',Po S (R S) 0 [] ZO->RZ E G S {A with a9:=ZO} [] z3 s'->K .none s'):uu [Y A.ai] s K:=by
 refine zd (cI (v:=Y A.aD) (rH (rH (Z H) (rT (O.Zu 0 H:s A.ai=J (f4 500 A.au A.aR)) H)) (rT (O.le _ _ hA.ar) H)) (sP ?_));have nil:∀{N:M} {P:M->M->Prop},x8 N P λø=>[]:=λi=>⟨iU,λx h=>by cases h⟩
 exact YC (z:=(sD,sD,sD,sD,sD,sD,sD,sD,sD,sD,sD)) B hF.toSm hA O λZO z s' P O=>YF (A:={A with a9:=ZO}) (z3:=(λø=>[],λø=>[],λø=>[])) ⟨h,hF,B,hA,hL,h6,h7,TD,ł,P⟩ ⟨O,nil,nil,nil⟩ λz3 s' I=>k ZO z3 s' P I
theorem YI(h:GX E g G x)(hF:G.ZU)(B:x4 G S)(hA:AX E a g da c G S)(O:sX E s [(l,f4 500 d [])])
  (k:∀nu ad Cl ZV s',Le E ZV->LX ZV G S nu ad Cl->sX ZV s' [(l,f4 500 d [Y a,Y nu,Y ad,Y Cl])]->bb [J (Y l),J (Y a),sD] s' Kb) :
  qo (L.ZG 500 0 (U 0) (U 1)) (qo (L.ZG 500 1 (U 0) (L.call xO (pL (L.Zx 383 0 (U 1)) pK))) (qo (L.ZG 500 2 (U 0) (pM pK)) (qo (L.ZG 500 3 (U 0) pO) (qo (qr (qC 500 tX (U 0) pK)) bb)))) [J (Y l),J (Y a),sD] s Kb:=by
 refine cS O 0 H (Z H) (Z H) (gE _) λs O=>cY (cO (cC (rH (v:=Y g) (Z H) (rT (O.le _ _ hA.ar) H) _ (cH (D1 (h.Zz O.le) hF.toSm (RL.ZC O λnu s O=>tS O 1 H (Z H) (gC 1) λs O=>(cY ⟨by decide,λad ht=>tS (O.new (o:=f1 []) ht) 2 H (Z H) (gC 2) λs O=>?_⟩)))))))
 refine cY λCl hi=>tS (O.new (o:=f8 []) hi) 3 H (Z H) (gC 3) λs O=>?_
 have O:sX E s (H8 l d a nu ad Cl [] [(nu,f1 (D0 G))]):=O.perm (lJ (l₁:=[(Cl,f8 []),(ad,f1 []),(nu,f1 (D0 G))]) (l₂:=[(l,f4 500 d [Y a,Y nu,Y ad,Y Cl])]));refine cJ (dD (cT (Z (v:=Y l) H _ ⟨cK (O.Zu 0 H:s l=J (f4 500 d [Y a,Y nu,Y ad,Y Cl])),cH (CW h hF.toSm B hA O λs O=>sP ?_)⟩)));exact tW (sX.rebase (l1:=[(l,f4 500 d [Y a,Y nu,Y ad,Y Cl])]) (l2:=[(Cl,f8 (Th (vW G.aa 0 S))),(ad,f1 ((vW G.aa 0 S).map pT)),(nu,f1 (D0 G))]) O) λZV hle O2 hm=>k nu ad Cl ZV s hle ⟨hm _ (gH _ (gH _ gI)),hm _ (gH _ gI),hm _ gI⟩ O2
theorem YJ(h:GX E g G x)(hF:G.ZU)(B:x4 G S)(hA:AX E a g da c G S)(hL:LX E G S nu ad Cl)(O:sX E s [(l,f4 500 d [Y a,Y nu,Y ad,Y Cl])])
  (k:∀fm c8 dm rd ZV s',Le E ZV->Oe G S (vW G.aa 0 S) (R (vW G.aa 0 S)) dm rd->ZV fm=J (f1 (nL dm))->ZV c8=J (f1 (EZ rd))->(∀q∈rd,ZV q.1=J (f1 (nL q.2)))->sX ZV s' [(l,f4 500 d [Y a,Y nu,Y ad,Y Cl,Y fm,Y c8])]->bb [J (Y l),J (Y a),sD] s' Kb) :
  qo (L.ZG 500 4 (U 0) (pM pK)) (qo (L.ZG 500 5 (U 0) (pM pK)) (qo (qr (qC 500 uN (U 0) pK)) bb)) [J (Y l),J (Y a),sD] s Kb:=by
 refine cY ⟨by decide,λfm h1=>tS (O.new (o:=f1 []) h1) 1 H (Z H) (gC 4) λs O=>?_⟩;refine cY ⟨by decide,λc8 h1=>tS (O.new (o:=f1 []) h1) 2 H (Z H) (gC 5) λs O=>?_⟩;have O:sX E s (Jf l d a nu ad Cl fm c8 [] [] []):=O.perm (List.reverse_perm [(l,f4 500 d [Y a,Y nu,Y ad,Y Cl,Y fm,Y c8]),(fm,f1 []),(c8,f1 [])]);refine cJ (dD (cT (Z (v:=Y l) H _ ⟨cK (O.Zu 0 H:s l=J (f4 500 d [Y a,Y nu,Y ad,Y Cl,Y fm,Y c8])),cH (Ke h hF.toSm B hA hL O λdm rd s P O=>sP ?_)⟩)));refine tW (sX.rebase (l1:=[(l,f4 500 d [Y a,Y nu,Y ad,Y Cl,Y fm,Y c8])]) (l2:=(fm,f1 (nL dm))::(c8,f1 (EZ rd))::(Je rd++[])) O) λZV hle O2 hm=>k fm c8 dm rd ZV s hle P (hm _ gI) (hm _ (gH _ gI)) (λq hq=>?_) O2
 exact hm (q.1,f1 (nL q.2)) (gH _ (gH _ (gV _ (iD (f:=λq=>(q.1,f1 (nL q.2))) hq))))
theorem YK(h:GX E g G x)(hF:G.ZU)(B:x4 G S)(hA:AX E a g da ad G S)(hL:LX E G S nu f fm)(O:sX E s [(Cl,f4 500 d [Y a,Y nu,Y f,Y fm,Y c,Y l])])
  (k:∀(c8 c2 cr:sE) (ui:V sE) (ZO:V ((M×M)×sE)) (inr lr:M->V M) ZV s',Le E ZV->Po S (R S) 0 [] ZO->R ui=R (vW G.aa 0 S)->ZV c8=J (f1 (ui.map Y))->(∀(i:M) bb,ui[i]?=J bb->ZV bb=J (f1 (nL (inr i))))->(∀(j:M) k bb,ZO[j]?=J (k,bb)->ZV bb=J (f1 (nL (lr j))))->
   x8 (R (vW G.aa 0 S)) (IG G S) inr->x8 (R (vW G.aa 0 S)) (λj x=>∀k a,ZO[j]?=J (k,a)->Xo G S k x) lr->sX ZV s' [(Cl,f4 500 d (Jg a nu f fm c l c8 c2 cr)),(cr,f8 (Ip ZO))]->bb [J (Y Cl),J (Y a),sD] s' Kb) :
  qo (L.ZG 500 6 (U 0) (rg (qJ (L.Zx 500 2 (U 0))) 1 [] (qF 0) pV (pM pK))) (qo (L.ZG 500 7 (U 0) (rg (qJ (L.Zx 500 2 (U 0))) 1 [] (qF 0) pV (pM pK))) (qo (L.ZG 500 8 (U 0) pO) (qo (qr (qC 500 uu (U 0) pK)) bb))) [J (Y Cl),J (Y a),sD] s Kb:=by
 have Ð:R ((vW G.aa 0 S).map pT)<=2 ^ 24 - 1:=D (gy _) (tY [262152,16777215] 0x4240900120402 H (Ia hF.toSm B));refine cY (C8 O (rH (Z H) (rT (O.Zu 0 H:s Cl=J (f4 500 d [Y a,Y nu,Y f,Y fm,Y c,Y l])) H)) (O.le _ _ hL.aZ) Ð λui c8 s TD O=>tS O 1 H (Z H) (gC 6) λs O=>(cY (C8 O (rH (Z H) (rT (O.Zu 1 H:s Cl=J (f4 500 d [Y a,Y nu,Y f,Y fm,Y c,Y l,Y c8])) H)) (O.le _ _ hL.aZ) Ð λut c2 s ł O=>tS O 2 H (Z H) (gC 7) λs O=>(λcr XV=>tS (O.new (o:=f8 []) XV) 3 H (Z H) (gC 8) λs O=>?_))));rw[gy]at TD ł
 refine tW (sX.rebase (st:=E) (s:=s) (l1:=E0 Cl d cr (Jg a nu f fm c l c8 c2 cr) [] (λø=>[]) (u4 ui (λø=>[])++(u4 ut (λø=>[])++[]))) (l2:=[(c2,f1 (ut.map Y)),(c8,f1 (ui.map Y))]) (by
  refine D (gY _) (O.perm ?_);refine((md _ (lJ (l₁:=[(c2,f1 (ut.map Y)),(c8,f1 (ui.map Y))]) (l₂:=[(Cl,f4 500 d (Jg a nu f fm c l c8 c2 cr))]++(u4 ui (λø=>[])++u4 ut λø=>[])))).trans (l8 ..)))) λZV hle O2 hm=>?_
 refine dD (cT (Z (v:=Y Cl) H _ ⟨cK (O2.Zu 0 H:s Cl=J (f4 500 d (Jg a nu f fm c l c8 c2 cr))),cH (GP (A:=⟨a,g,da,ad,Cl,d,nu,f,fm,c,l,c8,c2,cr,ui,ut,[],x,[]⟩) hF (h.Zz hle) B (hA.Zz hle) (hL.Zz hle) (hm _ (gH _ gI)) (hm _ gI) TD ł O2 λZO z3 s P I=>sP ?_)⟩));refine tW (sX.rebase (l1:=[(Cl,f4 500 d (Jg a nu f fm c l c8 c2 cr)),(cr,f8 (Ip ZO))]) (l2:=u4 (ZO.map (·.2)) z3.2.2++(u4 ui z3.1++(u4 ut z3.2.1++[]))) I.ZC) λZJ KM O3 Õ=>k c8 c2 cr ui ZO z3.1 z3.2.2 ZJ s (hle.trans KM) P TD (KM _ _ (hm _ (gH _ gI))) (λi bb hb=>?_) (λj k bb hb=>?_) I.inc I.bo O3
 .exact Õ (bb,f1 (nL (z3.1 i))) (gU _ (gV _ (gz (zV (us:=λi=>f1 (nL (z3.1 i))) hb))))
 .exact Õ (bb,f1 (nL (z3.2.2 j))) (gV _ (gz (zV (us:=λi=>f1 (nL (z3.2.2 i))) (by refine D (gG) (D hb ?_);rfl))))
theorem L5{α:Type}(f:α->M):∀l:V α,∃B,∀q∈l,f q<=B
 | []=>⟨0,λq h=>by cases h⟩
 | a::l=>by
  refine xE (L5 f l) λB h=>⟨max (f a) B,λq hq=>?_⟩
  rcases gX.mp hq with rfl | hq
  .exact Nat.le_max_left ..
  .exact gA (h q hq) (Nat.le_max_right ..)
noncomputable def Pq(rd:V (sE×V M))(i:M):V M:=match rd[i]? with | some q=>q.2 | none=>[]
theorem Kg{rd:V (sE×V M)}(h:rd[i]?=J (a,w)):Pq rd i=w:=by unfold Pq;exact D h H
theorem gg{rd:V (sE×V M)}(P:Oe G S I (R I) w rd)(hi:i<R I):∃p q a,I[i]?=J p/\vn S p.1 p.2=J q/\rd[i]?=J (a,Pq rd i)/\UY G S I q (w.getD i 0) (Pq rd i):=by
 have h3:=gM (show i<R rd by exact D P.bk hi);generalize rd[i]'(show i<R rd by exact D P.bk hi)=q at h3;obtain ⟨b,row⟩:=q;refine s9 (P.ay i _ _ _ _ (gM hi) (gM (show i<R w by exact D P.bj hi)) h3) λq hg bi=>(uQ _ q b (gM hi) hg (D (Kg h3) h3) (D (Kg h3) (D (iJ) (D (gM (show i<R w by exact D P.bj hi)) ?_))));exact bi
theorem YL(B:x4 G S)(hS:G.Sm){rd:V (sE×V M)}{ZO:V ((M×M)×sE)}
  (hL:LX E G S nu ad Cl) (P:Oe G S (vW G.aa 0 S) (R (vW G.aa 0 S)) ts rd) (Ŵ:E da=J (f1 (nL ts))) (b?:E f=J (f1 (EZ rd))) (b!:∀q∈rd,E q.1=J (f1 (nL q.2)))
  (XV:Po S (R S) 0 [] ZO) (TD:R ra=R (vW G.aa 0 S)) (Š:E c8=J (f1 (ra.map Y))) (On:∀(i:M) b,ra[i]?=J b->E b=J (f1 (nL (cj i)))) (ž:∀(j:M) k b,ZO[j]?=J (k,b)->E b=J (f1 (nL (cR j))))
  (R1:x8 (R (vW G.aa 0 S)) (IG G S) cj) (R2:x8 (R (vW G.aa 0 S)) (λj x=>∀k a,ZO[j]?=J (k,a)->Xo G S k x) cR) (O:sX E s [(g,f4 500 d (Jg a nu ad Cl da f c8 c2 cr)),(cr,f8 (Ip ZO))])
  (k:∀be c s' fs,F7 G S be->Le E s'->s' c=J (f8 (R3 be))->s' g=J (f4 500 d fs)->fs[11]?=J (Y c)->K .none s') :
  qo (qp 2 (rz qN (pL (L.Zx 500 2 (U 0)) pK))) (qo (L.ZG 500 9 (U 0) (L.call zg (pL (U 2) (pL (L.Zx 500 5 (U 0)) (pL (L.Zx 500 4 (U 0)) pK))))) (qo (L.ZG 500 10 (U 0) (L.call zg (pL (U 2) (pL (L.Zx 500 6 (U 0)) (pL (L.Zx 500 9 (U 0)) pK))))) (qo (L.ZG 500 11 (U 0) (qC 500 uA (U 0) pK)) qm))) [J (Y g),J (Y a),sD] s (tB K):=by
 have hT:=Ia hS B;generalize hn:R (vW G.aa 0 S)=n at *;refine cJ (cI (v:=f0 (n:M)) (tj (D (gy _) (D hn H):(R ((vW G.aa 0 S).map pT):al)=(n:M)) (rJ (cE (rH (Z H) (rT (O.Zu 0 H) H)) cF) (sa (O.le _ _ hL.aZ)))) (sP (xE (L5 (λq:sE×V M=>R q.2) rd) λBd hBd=>?_)));have rq:∀i,i<n->_:=λi hi=>gg (hn▸P) (hn▸hi)
 refine cY (cO (cC (cG H (cC (rH (v:=Y f) (Z H) (rT (O.Zu 0 H) H) _ (cC (rH (v:=Y da) (Z H) (rT (O.Zu 0 H) H) _ (cH (Jh ((λs l=>⟨by refine D (l _ _ b?) ?_;exact D iS H,by exact D (gy _) (D P.bk H),λi b hb=>by
  rw[gG]at hb;refine vp b (gR.mp hb) λq hq=>D (Kg hq) ?_
  exact l _ _ (b! q (gz hq)),λi hi j hj=>by
  exact t9 (rq i hi) λp q b h1 h2 h3 bi=>s9 (bi.ao j hj) λsC ø hY=>hn▸(gB.mp hY).1,λi hi=>by
  exact t9 (rq i hi) λp q b h1 h2 h3 bi=>hBd _ (gz h3)⟩ : ∀s,Le E s->RX s f n Bd (Pq rd) (rd.map (·.1))) s O.le) (D (O.le _ _ Ŵ) (D (UU _) (D P.bj H)):s da=J (f1 (rM n λv=>f0 (ts.getD v 0:M)))) hT λrm hrm=>RL.ZC O λξ s O=>tS O 1 H (Z H) (gC 9) λs O=>?_)))))))))
 refine cY (cO (cC (cG H (cC (rH (v:=Y c8) (Z H) (rT (O.Zu 1 H:s g=J (f4 500 d (Jg a nu ad Cl da f c8 c2 cr++[Y ξ]))) H) _ (cC (rH (v:=Y ξ) (Z H) (rT (O.Zu 1 H:s g=J (f4 500 d (Jg a nu ad Cl da f c8 c2 cr++[Y ξ]))) H) _ (cH (Jh (⟨O.le _ _ Š,TD,λi b hb=>O.le _ _ (On i b hb),λi ø j hj=>((R1 i).2 j hj).1,λi ø=>R1.len i⟩ : RX s c8 n n cj ra) (O.Zu 0 H) hT λfm ŷ=>RL.ZC O λfmA s O=>tS O 2 H (Z H) (gC 10) λs O=>(tW (sX.rebase (st:=E) (s:=s) (l1:=[(g,f4 500 d (Jg a nu ad Cl da f c8 c2 cr++[Y ξ,Y fmA])),(cr,f8 (Ip ZO))]) (l2:=[(fmA,f1 (rM n λv=>f0 (fm v:M))),(ξ,f1 (rM n λv=>f0 (rm v:M)))]) (O.perm (lJ (l₁:=[(fmA,f1 (rM n λv=>f0 (fm v:M))),(ξ,f1 (rM n λv=>f0 (rm v:M)))]) (l₂:=[(g,f4 500 d (Jg a nu ad Cl da f c8 c2 cr++[Y ξ,Y fmA])),(cr,f8 (Ip ZO))])))) λZV hle O2 hm=>?_))))))))));have hll:R ZO<=1000000:=tD [20,0,1025,1000000] 0x1848120825a00212804020403 H XV.len (B.len hS);refine cY (cT (Z (v:=Y g) H _ ⟨cK (O2.Zu 0 H:s g=J (f4 500 d (Jg a nu ad Cl da f c8 c2 cr++[Y ξ,Y fmA]))),cH (Ic (l:=[]) (fmA:=fmA) (fm:=fm) (n:=n) (lr:=cR) XV.nd hll H rfl (λj k b hj=>⟨hle _ _ (ž j k b hj),λx hx=>((R2 j).2 x hx).1⟩) (hm _ gI) O2 λbe c s JP O=>tS O 1 H (Z H) (gC 11) λs O=>?_)⟩));have Ő:be.map (·.1)=ZO.map (·.1):=by have:=JP.keys;rwa [ic]at this
 refine k be c s _ ⟨Ő▸XV.nd,λq t=>?_,λk m hk t ht=>?_⟩ (hle.trans O.le) (O.Zu 0 H) (O.Zu 1 H) H
 ·(refine D Ő ?_;rewrite[XV.iff])
  exact⟨λh=>h.elim (λZN=>s9 ZN λr ø h=>⟨r,h⟩) λh=>(by cases h.2),λZN=>s9 ZN λr h1 h2=>.inl ⟨r,(gB.mp h1).1,h1,h2⟩⟩
 .refine xE (ie hk) λj hj=>?_
  refine s9 (JP.ay j k m hj t ht) λy hy hb=>?_
  have hkj:∃b,ZO[j]?=J (k,b):=by
   have h1:(be.map (·.1))[j]?=J k:=by refine D (gG) (D hj ?_);rfl
   rw[Ő,gG]at h1;obtain ⟨⟨k',b⟩,h2,h3⟩:=gR.mp h1;exact⟨b,by exact D h2 (sJ (λq=>J (q,b)) h3)⟩
  refine xE hkj λb WF=>xA ((R2 j).2 y hy) λhyn hP=>tW (ŷ y hyn t hb) λz r1 hz hb=>tW (hrm z hz t hb) λw r2 hw hb=>t9 (rq w hw) λp q b2 h1 h2 h3 bi=>Mz (bi.aA t hb) λht r h4 h5=>(uQ y z w (hP k b WF) (r1.st λi j hj=>((R1 i).2 j hj).2) ?_ (tq p q r h1 h2 ht h4 h5))
  refine r2.st λi j hj=>?_
  by_cases hi:i<n
  .exact t9 (rq i hi) λp q b h1 h2 h3 bi=>s9 (bi.ao j hj) λsC hY hT=>(uQ p q sC h1 h2 hY hT)
  .unfold Pq at hj;rw[(iz (D P.bk (tD [] 0x520484284a2 H hi)):rd[i]?=sD)]at hj;cases hj
theorem Kh(h:GX E g G x)(hF:G.ZU)(B:x4 G S)(hA:AX E a g da l G S)(k:∀be c s',F7 G S be->Le E s'->s' c=J (f8 (R3 be))->K (Y c) s'):BG [Y a] E K:=by
 refine Iw (fY (dS (sX.init E) (cE (Z H) cF) λe d s O=>DQ (YI h hF B hA O λnu tr ix ZV s l1 hL O=>(YJ (h.Zz l1) hF B (hA.Zz l1) hL O λdi re dm rd ZJ s l2 P Ŵ b? b! O=>YK (h.Zz (l1.trans l2)) hF B (hA.Zz (l1.trans l2)) (hL.Zz l2) O λinc tu lb ui ZO inr lr st4 s l3 XV TD Š On ž R1 R2 O=>(YL B hF.toSm ((hL.Zz l2).Zz l3) P (l3 _ _ Ŵ) (l3 _ _ b?) (λq hq=>l3 _ _ (b! q hq)) XV TD Š On ž R1 R2 O λbe c s fs hM l4 hc he hf=>⟨H,eY he hf (k be c s hM (l1.trans (l2.trans (l3.trans l4))) hc)⟩)))))
theorem eG(h:es ρ s λxs s1=>∀x d,s1 x=sD->s1 d=sD->x≠d->fn (Y x::xs) (ur s1 x (f4 c d [])) λr E=>r=.none/\KE (Y x) E):L.new c fn es ρ s KE:=h
theorem Ie(on:hU t sD++ld.map (λi=>(ρ[i]?).join)=ρ0)(hx:∀i,i<=R vs->nx i s=J vs[i]?)(hz:R vs<=2 ^ 24 - 1)(g:M->LV)
  (step:∀i v x,vs[i]?=J v->Ev e ((ρ0.set k x).set k (J v)) s (g i)) (kk:∀c,s c=sD->KE (Y c) (ur s c (f1 (rM (R vs) g)))):HP t ld (qF k) pV e ρ KE nx s:=by
 refine EP (ρ0:=ρ0) (vs:=vs) (λi acc s'=>s'=s/\acc=rM i g) on ⟨H,H⟩ (λi a s' hi h=>h.1▸hx i hi) hz (λi v acc s' jp Ky hv hi h d_ hy=>?_) λacc s' hi h c hc=>?_
 .obtain ⟨rfl,h⟩:=h;obtain ⟨x,rfl⟩:=d_;exact step i v x hv _ (hy _ _ ⟨H,by rw[G1,h]⟩)
 .obtain ⟨rfl,rfl⟩:=h;exact kk c hc
theorem VW(on:hU t sD++ld.map (λi=>(ρ[i]?).join)=ρ0)(he:Ev e ρ s (Y a))(hl:s a=J (f1 vs))(hz:R vs<=2 ^ 24 - 1)(g:M->LV)
  (step:∀i v x,vs[i]?=J v->Ev mo ((ρ0.set k x).set k (J v)) s (g i)) (kk:∀c,s c=sD->KE (Y c) (ur s c (f1 (rM (R vs) g)))):rg (qJ e) t ld (qF k) pV mo ρ s KE:=
 dJ (cX (he _ (Gk hl (Ie on (λi ø=>by unfold qD;exact D hl H) hz g step kk))))
theorem Rd(on:hU t sD++ld.map (λi=>(ρ[i]?).join)=ρ0)(he:Ev e ρ s (f2 vs))(hz:R vs<=2 ^ 24 - 1)(g:M->LV)
  (step:∀i v x,vs[i]?=J v->Ev mo ((ρ0.set k x).set k (J v)) s (g i)) (kk:∀c,s c=sD->KE (Y c) (ur s c (f1 (rM (R vs) g)))):rg (qJ e) t ld (qF k) pV mo ρ s KE:=
 dJ (cX (he _ (UQ (Ie on (λi ø=>rfl) hz g step kk))))
theorem Nh{α:Type}{l:V α}{f:α->LV}{g:M->LV}(h:∀(i:M) a,l[i]?=J a->g i=f a):rM (R l) g=l.map f:=by
 apply jj;intro i
 rcases iZ i (R l) with hi | hi
 .refine D (ux hi) (D (gG) (D (gM hi) (D (h i _ (gM hi)) ?_)));rfl
 .exact D (iz (D uJ hi)) (D (iz (D (gy _) hi)) H)
noncomputable abbrev VX(st:LH)(v d g a da ls cs mk:sE)(G:Gm)(S:V SR)(be:V ((M×M)×M)):Prop:=st v=J (f4 696 d [Y g,Y a,Y cs,Y mk])/\AX st a g da ls G S/\st cs=J (f1 (S.map λr=>f2 (nL (uv G r))))/\st mk=J (f8 (R3 be))
def VX.ar(h:VX s c d g a da l nu ad G S be):=h.1
def VX.ax(h:VX s c d g a da l nu ad G S be):=h.2.1
def VX.cs(h:VX s c d g a da l nu ad G S be):=h.2.2.1
def VX.mm(h:VX s c d g a da l nu ad G S be):=h.2.2.2
theorem VX.Zz{v:sE}(h:VX s v d g a da c nu ad G S be)(l:Le s E):VX E v d g a da c nu ad G S be:=⟨l _ _ h.ar,h.ax.Zz l,l _ _ h.cs,l _ _ h.mm⟩
theorem L6(h:GX E g G x)(hF:G.ZU)(k:∀v d a da ls cs mk S be s',Le E s'->x4 G S->F7 G S be->VX s' v d g a da ls cs mk G S be->(∀(q:M) r,S[q]?=J r->E r.ia=sD/\E r.aY=sD)->K (Y v) s'):CG [Y g] E K:=by
 refine JR (cQ (cO (cC (cG H (cH (Tf h hF.toSm hF.bx λa da ls S s l1 B hA fr=>sP (cZ (eG (cC (cG H (cC (cG H (cC ?_)))))))))))));refine VW (ρ0:=[sD]) H (rH (Z H) (rT hA.ar H)) hA.aB (D (gy _) (tY [1025,16777215] 0x4240900120402 H (B.len hF.toSm))) (λi=>match S[i]? with | some r=>f2 (nL (uv G r)) | none=>.none) (λi v y hv=>?_) λcs Tl=>?_
 .rw[gG]at hv;exact vp v (gR.mp hv) λr hr=>D hr (rH (Z H) (rT (hA.ay i r hr).1 H))
 refine D (gy _) (D (Nh (l:=S) (f:=λr=>f2 (nL (uv G r))) λi r hr=>by exact D hr H) ?_);have O:=(sX.init s).new (o:=f1 (S.map λr=>f2 (nL (uv G r)))) Tl;refine cO (cG H (cH (Kh ((h.Zz l1).Zz O.le) hF B (hA.Zz O.le) λbe c s2 hM l2 hc=>?_)));intro v d hv hd hvd;refine JQ (cS ((sX.init s2).new (o:=f4 696 d []) hv) 0 H (Z H) (Z H) (gE _) λs O=>(cS O 0 H (Z H) (Z H) (gC 1) λs O=>cS O 0 H (Z H) (Z H) (gC 2) λs O=>?_));refine cS O 0 H (Z H) (Z H) (gC 3) λs O=>⟨H,?_⟩
 exact k v d a da ls cs c S be s (l1.trans ((Le.new Tl).trans (l2.trans O.le))) B hM ⟨O.Zu 0 H,((hA.Zz (Le.new Tl)).Zz l2).Zz O.le,O.le _ _ (l2 _ _ (te (st:=_) (a:=cs) (o:=f1 (S.map λr=>f2 (nL (uv G r)))))),O.le _ _ hc⟩ fr
noncomputable abbrev FX(st:LH)(f d a g nu fm:sE)(G:Gm)(F:M->M):Prop:=st f=J (f4 656 d [Y a,Y g,Y nu,Y fm])/\st nu=J (f1 (D0 G))/\st fm=J (f1 (rM (R G.ZH) λX=>f0 (F X:M)))/\G3 G F
def FX.ar(h:FX s f d a g nu fm G F):=h.1
def FX.a7(h:FX s f d a g nu fm G F):=h.2.1
def FX.bE(h:FX s f d a g nu fm G F):=h.2.2.1
def FX.ok(h:FX s f d a g nu fm G F):=h.2.2.2
theorem FX.Zz(h:FX s f d a g nu fm G F)(l:Le s E):FX E f d a g nu fm G F:=⟨l _ _ h.ar,l _ _ h.a7,l _ _ h.bE,h.ok⟩
noncomputable def VY:sF (V M)->LV
 | none=>.none
 | some t=>f2 (nL t)
noncomputable def Bo(S:V SR)(tr:sF (V M))(p X:M):sF M:=match tr with
 | none=>vn S p X
 | some t=>if t[p]?=J X then J (p+1) else sD
theorem IH(h:GX E g G x)(hF:G.ZU)(hA:AX E a g da c G S)(O:sX E s ((f,f4 656 d [])::pre))(k:∀nu fm F s',G3 G F->sX E s' ((fm,f1 (rM (R G.ZH) λX=>f0 (F X:M)))::(nu,f1 (D0 G))::(f,f4 656 d [Y a,Y g,Y nu,Y fm])::pre)->K .none s'):AE [Y f,Y a] s K:=by
 refine HC (cS O 0 H (Z H) (Z H) (gE _) λs O=>(cS O 0 H (rH (Z H) (rT (O.le _ _ hA.ar) H)) (Z H) (gC 1) λs O=>?_));exact cY (cO (cC (rH (v:=Y g) (Z H) (rT (O.Zu 0 H:s f=J (f4 656 d [Y a,Y g])) H) _ (cH (D1 (h.Zz O.le) hF.toSm (RL.ZC O λnu s O=>tS O 1 H (Z H) (gC 2) λs O=>(cY (cO (cC (rH (v:=Y g) (Z H) (rT (O.Zu 1 H:s f=J (f4 656 d [Y a,Y g,Y nu])) H) _ (cH (IC (h.Zz O.le) hF.toSm hF.ė λF Wp=>RL.ZC O λfm s O=>tS O 2 H (Z H) (gC 3) λs O=>k nu fm F s Wp O))))))))))))
theorem Rf(h:GX s g G x)(hS:G.Sm)(hf:FX s f d a g nu fm G F)(hp:G.Ok p)(hX:(G.Zv p.1)[p.2]?=J X):Op (yb [Y f,f0 (G.it p:M)]) s (f2 (nL ((G.Zv p.1).drop (p.2+1)))):=λKE k=>by
 refine vL (h.rule hp.ao) λra rd ZM ha ol=>HD (cI (v:=Y g) (rH (Z H) (rT hf.ar H)) (sP ?_))
 have e1:Ev (L.Zx 87 2 (pI qi (L.Zx 169 2 (U 2)) (qC 169 tQ (U 2) (pL (U 1) pK)))) ([J (Y f),J (f0 (G.it p:M)),sD].set 2 (J (Y g))) s (f2 (nL (G.Zv p.1))):=
  rH (rE (rH (Z H) (rT h.hg H)) (rK (Z H) (cK h.hg) (cE (Z H) cF) (xY h hp)) (r5 h.Z2 (vl ha))) (rT ol H)
 have e2:Ev (pI pZ (qC 169 uq (U 2) (pL (U 1) pK)) (pG (f0 1))) ([J (Y f),J (f0 (G.it p:M)),sD].set 2 (J (Y g))) s (f0 (p.2+1:M)):=
  rE (rK (Z H) (cK h.hg) (cE (Z H) cF) (CQ h hp)) rD rU
 refine cZ (cC (e1 _ (e2 _ (AV (ig _) (by exact D (sU _) (jf.mpr ((gB.mp hX).1))) (by exact D (sU _) (D sS (tY [3,16777216] 0x4240900120402 H (hS.au p.1)))) ?_))));exact D (jl _) (D (show(nL (G.Zv p.1)).drop (p.2+1)=nL ((G.Zv p.1).drop (p.2+1)) by unfold nL;exact D mX H) (tU _ _ H (.inl H) k))
theorem VZ(B:x4 G S)(hA:AX E a g da c G S)(hf:FX E f d a g nu fm G F)(hp:tr=sD->i<R S):Op (AH [Y f,f0 i,f0 X,VY tr]) E (Pn (Bo S tr i X)):=λKE k=>by
 refine HE ?_;cases tr with
 | none=>exact cL (t:=pH) (rL (Z H) rD (sd (y:=.none))) (λø=>cJ (cP (rK (rH (Z H) (rT hf.ar H)) (cK hA.ar) (cE (Z H) (cE (Z H) cF)) (Kd B hA (hp H))) k)) λq=>tf q
 | some t=>
  refine cL (t:=Zt) (rL (Z H) rD (se (y:=.none) nofun)) (λq=>ft q) λø=>sP ?_
  have elt:EvB (pX qf (U 1) (rz qN (pL (U 3) pK))) [J (Y f),J (f0 i),J (f0 X),J (f2 (nL t))] E (b8 ((i:al)<(R t:M))):=rL (Z H) (rJ (cE (Z H) cF) (by exact tj (D (sU _) H:(R (nL t):al)=(R t:M)) sb)) rX;cases hX:t[i]? with
  | none=>
   have ZY:decide ((i:al)<(R t:M))=Zt:=sT λh=>by rw[gM (g8.mp h)]at hX;exact E9 hX
   rw[ZY]at elt;refine cL (t:=Zt) (rO (s:=Zt) (t:=pH) elt λq=>ft q) (λq=>ft q) λø=>sP (cJ (cP (rF rD rW) ?_))
   have e:Bo S (J t) i X=sD:=by refine(?_:(if t[i]?=J X then _ else _)=_);exact D hX (D (sH (by intro h;exact uH h)) H)
   rw[e]at k;exact k
  | some sC=>
   rw[(sM (g8.mpr (gB.mp hX).1):decide ((i:al)<(R t:M))=pH)]at elt;refine cL (rP elt (rQ (rL (rE (Z H) (Z H) (r8 (xk hX))) (Z H) rZ))) (λq=>cJ (cP (rE (Z H) rD rU) ?_)) λq=>sP (cJ (cP (rF rD rW) ?_))
   .have q:sC=X:=iQ (sQ q);have e:Bo S (J t) i X=J (i+1):=by refine(?_:(if t[i]?=J X then _ else _)=_);exact D hX (D q (D (sI H) H))
    rw[e]at k;exact k
   .have e:Bo S (J t) i X=sD:=by refine(?_:(if t[i]?=J X then _ else _)=_);exact D hX (D (sH λh=>(λe=>sW q (D e H):sC≠X) (gv h)) H)
    rw[e]at k;exact k
noncomputable abbrev Vx:=M×(M×M)×M
variable {ik v0:Vx}
noncomputable def Iq(G:Gm)(v:Vx):LV:=f2 [f0 v.1,f0 (G.it v.2.1:M),f0 v.2.2]
noncomputable def R4(G:Gm)(q:al×Vx):LV:=f2 [f0 q.1,Iq G q.2]
noncomputable def uK(G:Gm)(F:M->M)(t:M)(p:M×M)(f:M):M:=if (fo (vU G) F ((G.Zv p.1).drop (p.2+1))).1.testBit t then 1 else if (fo (vU G) F ((G.Zv p.1).drop (p.2+1))).2 then f else 0
noncomputable def Tv(S:V SR)(tr:sF (V M))(v:Vx)(X:M):V (al×Vx):=match Bo S tr v.1 X with
 | some q=>[((X:al),(q,(v.2.1.1,v.2.1.2+1),v.2.2))]
 | none=>[]
noncomputable def R5(G:Gm)(F:M->M)(t:M)(v:Vx)(X:M):V (al×Vx):=if G.aa<=X then (G.ZL X).map λr=>(-1,(v.1,(r,0),uK G F t v.2.1 v.2.2)) else []
noncomputable def wk(G:Gm)(S:V SR)(F:M->M)(t:M)(tr:sF (V M))(v:Vx):V (al×Vx):=match (G.Zv v.2.1.1)[v.2.1.2]? with
 | none=>[]
 | some X=>Tv S tr v X++R5 G F t v X
noncomputable def X5.ZA(A:Ag)(G:Gm)(v:Vx)(X:M)(t:M)(tr:sF (V M))(y10 y11 y12 pi Ĝ:sF LV):uZ:=[J (Y A.ae),J (Iq G v),J (f0 t),J (VY tr),J (f0 v.1),J (f0 (G.it v.2.1:M)),J (f0 v.2.2),J (Y A.az),J (f0 X),J (Y A.aE),y10,y11,y12,pi,Ĝ]
theorem Oh(h:GX E g G x)(hF:G.ZU)(hf:FX E f d a g nu fm G F){L0:V (al×Vx)}(hp:G.Ok v0.2.1)(hX:(G.Zv v0.2.1.1)[v0.2.1.2]?=J X)(hl:R L0<=1)(O:sX E s [(c,f1 (L0.map (R4 G)))])
  (k:RL E K ((L0++R5 G F t v0 X).map (R4 G))):Bb (X5.ZA ⟨f,g,c,0,0,0,[],[]⟩ G v0 X t tr y10 sD sD sD sD) s (tB K):=by
 have hS:=hF.toSm;have hx:=h.Zz O.le;have Ò:=hf.Zz O.le;have fin:∀y11 y12 pi Ĝ s,sX E s [(c,f1 ((L0++R5 G F t v0 X).map (R4 G)))]->qo (qt (U 9)) qm (X5.ZA ⟨f,g,c,0,0,0,[],[]⟩ G v0 X t tr y10 y11 y12 pi Ĝ) s (tB K):=λø ø ø ø s O=>cJ (cP (Z H) (k c s O.le (O.fr 0 H) (O.Zu 0 H)))
 refine cJ (cL (rN (rS (rK (Z H) (cK hx.hg) (cE (Z H) cF) (vP hx)))) (λq=>?_) λq=>sP (fin _ _ _ _ s ?_))
 .have q:G.aa<=X:=by simp at q;exact tD [] 0x52048520402 H q
  generalize hD:(G.Zv v0.2.1.1).drop (v0.2.1.2+1)=ad;have cr:=Rf hx hS Ò hp hX;rw[hD]at cr;have H?:uK G F t v0.2.1 v0.2.2=if (fo (vU G) F ad).1.testBit t then 1 else if (fo (vU G) F ad).2 then v0.2.2 else 0:=by unfold uK;exact D hD H
  refine cJ (dK (rI (cE (rK (Z H) (cK Ò.ar) (cE (Z H) cF) cr) (cE (rH (Z H) (rT Ò.ar H)) (cE (rH (Z H) (rT Ò.ar H)) cF))) (HU (row:=ad) (n:=R G.ZH) (N:=vU G) (F:=F) Ò.a7 Ò.bE λs hs=>hS.rt v0.2.1.1 hp.ao s (mn (hD▸hs)))) H (sP (cJ (cI (v:=f0 ((if (fo (vU G) F ad).2 then v0.2.2 else 0:M):al)) (Ev.ife (rS (Z H)) (λq=>by exact D q (Z H)) λq=>by exact D q rD) (sP ?_)))))
  have cont:zJ (X5.ZA ⟨f,g,c,0,0,0,[],[]⟩ G v0 X t tr y10 (J (f0 ((fo (vU G) F ad).1:M))) (J (ii (fo (vU G) F ad).2)) (J (f0 (uK G F t v0.2.1 v0.2.2:M))) sD) s (A3 Ba (tB K)):=by
   refine cJ (dE (cX (cT (Z (v:=Y g) H _ ⟨cK hx.hg,cC (cG H (cH (BR hx hS (hS.ZT hp.ao hX) (RL.ZC O λcr s O=>?_))))⟩))));refine yR (loc:=λĜ=>X5.ZA ⟨f,g,c,0,0,0,[],[]⟩ G v0 X t tr y10 (J (f0 ((fo (vU G) F ad).1:M))) (J (ii (fo (vU G) F ad).2)) (J (f0 (uK G F t v0.2.1 v0.2.2:M))) Ĝ) (z0:=sD) (λj ø s=>sX E s [(cr,f1 (nL (G.ZL X))),(c,f1 ((L0++((G.ZL X).take j).map λr=>(-1,(v0.1,(r,0),uK G F t v0.2.1 v0.2.2))).map (R4 G)))]) (λj z s O=>O.Zu 0 H) (by exact D List.take_zero (D List.map_nil (D (gY _) O))) (λj w z s K1 hv O ZW=>?_) λz s O=>sP (fin (J (f0 ((fo (vU G) F ad).1:M))) (J (ii (fo (vU G) F ad).2)) (J (f0 (uK G F t v0.2.1 v0.2.2:M))) z s ?_)
   .refine Bt w (wa hv) λr hr=>xA (vK.mp (gz hr)) λsK ø=>cU O 1 H (v:=R4 G (-1,(v0.1,(r,0),uK G F t v0.2.1 v0.2.2))) (Z H) (cW (rF rD rW) (rG (cE (Z H) (cE (rK (Z H) (cK (h.Zz O.le).hg) (cE (Z H) (cE rD cF)) (Bi (dt:=0) (h.Zz O.le) sK)) (cE (Z H) cF))) (gQ H))) (D (gy _) (D gK (D (gy _) (D iA (gA (jE hl (gA (iT _ _) (H0 hS X))) (by decide)))))) λs O=>ZW .next _ _ (ti (J (f0 r)) H ?_)
    (refine D (D (tF hr) (D gF H):((G.ZL X).take (j+1)).map (λr=>((-1:al),(v0.1,(r,0),uK G F t v0.2.1 v0.2.2)))=((G.ZL X).take j).map (λr=>((-1:al),(v0.1,(r,0),uK G F t v0.2.1 v0.2.2)))++[(-1,(v0.1,(r,0),uK G F t v0.2.1 v0.2.2))]) ?_;rewrite[<- gW];refine D gF ?_);exact O
   .rw[sU,ic,<- (sI q:R5 G F t v0 X=(G.ZL X).map λr=>(-1,(v0.1,(r,0),uK G F t v0.2.1 v0.2.2)))]at O;exact O.tail
  refine cJ (cL (t:=(fo (vU G) F ad).1.testBit t) (by rw[<- HQ];exact rL (rE (rE (Z H) (Z H) sk) rD (si (n:=1))) rD rZ) (λq=>?_) λq=>sP ?_)
  .refine cJ (cI rD (sP ?_));rw[H?,sI q]at cont;exact sP cont
  .rw[H?,sH (by refine D q ?_;decide)]at cont;exact cont
 .have q:¬ G.aa<=X:=by simp at q;exact tD [] 0x52040428422 H q
  exact D (show R5 G F t v0 X=[] from sH q) (D (gY _) O)
theorem Tw(h:GX E g G x)(hF:G.ZU)(B:x4 G S)(hA:AX E a g da l G S)(hf:FX E f d a g nu fm G F)(hp:G.Ok v0.2.1)(hv:tr=sD->v0.1<R S)(k:RL E K ((wk G S F t tr v0).map (R4 G))):zL [Y f,Iq G v0,f0 t,VY tr] E K:=by
 refine GH (dK (Z H) H (sP (cJ (cI (v:=Y g) (rH (Z H) (rT hf.ar H)) (sP (cI (rK (Z H) (cK h.hg) (cE (Z H) cF) (C7 h hp)) (sP ?_)))))));cases hX:(G.Zv v0.2.1.1)[v0.2.1.2]? with
 | none=>
  have e:wk G S F t tr v0=[]:=by unfold wk;exact D hX H
  rw[e]at k;refine D (CV hX) (cL (t:=pH) (rL (Z H) rD (rX (p:=-1) (q:=0))) (λø=>?_) λq=>tf q);exact cZ ⟨gE _,λc hc=>k c _ (Le.new hc) hc (te ..)⟩
 | some X=>
  have e:wk G S F t tr v0=Tv S tr v0 X++R5 G F t v0 X:=by unfold wk;exact D hX H
  rw[e]at k;refine D (CU hX) (cL (t:=Zt) (by exact tj (sT (jy.mpr (ig X))) (rL (Z H) rD rX)) (λq=>ft q) λø=>sP ?_);refine dC (sX.init E) λc s O=>cI (rK (Z H) (cK (hf.Zz O.le).ar) (cE (Z H) (cE (Z H) (cE (Z H) cF))) (VZ B (hA.Zz O.le) (hf.Zz O.le) hv)) (sP ?_)
  cases hq:Bo S tr v0.1 X with
  | none=>
   have e1:Tv S tr v0 X=[]:=by unfold Tv;exact D hq H
   rw[e1]at k;exact cL (t:=Zt) (rL (Z H) rD (rY (p:=-1) (q:=0))) (λq=>ft q) λø=>sP (Oh (L0:=[]) (y10:=J (f0 (-1))) h hF hf hp hX (gE _) O k)
  | some q=>
   have e1:Tv S tr v0 X=[((X:al),(q,(v0.2.1.1,v0.2.1.2+1),v0.2.2))]:=by unfold Tv;exact D hq H
   rw[e1]at k;refine cL (t:=pH) (tj (sM (ig q)) (rL (Z H) rD rY)) (λø=>?_) λq=>tf q
   exact cU O 0 H (v:=R4 G ((X:al),(q,(v0.2.1.1,v0.2.1.2+1),v0.2.2))) (Z H) (cW (Z H) (rG (cE (Z H) (cE (rI (cE (Z H) (cE (Z H) cF)) (H4 (h.Zz O.le) hp)) (cE (Z H) cF))) (gQ H))) (gE _) λs O=>sP (Oh (L0:=[((X:al),(q,(v0.2.1.1,v0.2.1.2+1),v0.2.2))]) (y10:=J (f0 q)) h hF hf hp hX (gC _) O k)
noncomputable def Pa(G:Gm)(S:V SR)(F:M->M)(t:M)(tr:sF (V M))(v:Vx)(σ:V M)(ρ:V (V M)):Prop:=∀C:Vx->V M->V (V M)->Prop,C (0,(0,0),0) [] []->(∀{p r d f X q σ ρ},C (p,(r,d),f) σ ρ->(G.Zv r)[d]?=J X->Bo S tr p X=J q->C (q,(r,d+1),f) (σ++[X]) ρ)->
 (∀{p r d f X r' σ ρ},C (p,(r,d),f) σ ρ->(G.Zv r)[d]?=J X->G.aa<=X->r'<R G.ZF->G.ZE r'=X->C (p,(r',0),uK G F t (r,d) f) σ ((G.Zv r).drop (d+1)::ρ))->C v σ ρ
theorem Pa.nil:Pa G S F t tr (0,(0,0),0) [] []:=λø a ø ø=>a
theorem Pa.go(h:Pa G S F t tr (i,(r,m),N) σ gw)(hX:(G.Zv r)[m]?=J X)(hg:Bo S tr i X=J j):Pa G S F t tr (j,(r,m+1),N) (σ++[X]) gw:=λC a b c=>b (h C a b c) hX hg
theorem Pa.op{d:M}(h:Pa G S F t tr (i,(r,d),m) σ gw)(hX:(G.Zv r)[d]?=J X)(hc:G.aa<=X)(hr:N<R G.ZF)(hl:G.ZE N=X):Pa G S F t tr (i,(N,0),uK G F t (r,d) m) σ ((G.Zv r).drop (d+1)::gw):=λC a b c=>c (h C a b c) hX hc hr hl
theorem Pa.ok{v:Vx}(hr:0<R G.ZF)(h:Pa G S F t tr v σ gw):G.Ok v.2.1:=
 h (λv ø ø=>G.Ok v.2.1) ⟨hr,gE _⟩ (λih hX ø=>⟨ih.ao,(gB.mp hX).1⟩) λø ø ø h2 ø=>⟨h2,gE _⟩
theorem Pa.walk(h:Pa G S F t sD v0 σ gw):xo S 0 σ=J v0.1:=
 h (λv0 σ ø=>xo S 0 σ=J v0.1) H (λih ø hg=>D D3 (D ih hg)) λih ø ø ø ø=>ih
theorem Pa.n_(h:Pa G S F t (J w) v0 σ gw):σ=w.take v0.1/\v0.1<=R w:=
 h (λv0 σ ø=>σ=w.take v0.1/\v0.1<=R w) ⟨H,gE _⟩ (λ{p r d f X q σ gw} ih _ hg=>by
  have hg:(if w[p]?=J X then J (p+1) else sD)=J q:=hg
  split at hg
  .rename_i e
   refine tj (gv hg) ?_;exact⟨by exact D (tF e) (tj ih.1 H),(gB.mp e).1⟩
  .exact uH hg) λih ø ø ø ø=>ih
theorem Pa.ĭ(hF:G.ZU)(h:Pa G S F t tr v0 σ gw):∃nw,σ=nw++(G.Zv v0.2.1.1).take v0.2.1.2/\DL G [G.aa] (nw++G.ZE v0.2.1.1::gw.flatten):=by
 refine(h (λv0 σ gw=>G.Ok v0.2.1/\∃nw,σ=nw++(G.Zv v0.2.1.1).take v0.2.1.2/\DL G [G.aa] (nw++G.ZE v0.2.1.1::gw.flatten)) ⟨⟨hF.bx,gE _⟩,ti ([]) H (D (show G.ZE (0,(0,0),0).2.1.1=G.aa from hF.bN) (.refl _ _))⟩ (λih hX ø=>⟨⟨ih.1.ao,(gB.mp hX).1⟩,s9 ih.2 λnw e hd=>(ti nw (by rw[e,tF hX,gW]) hd)⟩) λ{p r d f X r' σ gw} ih hX _ ZP hl=>⟨⟨ZP,gE _⟩,?_⟩).2
 .refine s9 ih.2 λnw e hd=>(ti σ ((gY _).symm) (hd.trans ?_))
  have h1:=DL.mid (α:=nw) (γ:=gw.flatten) (sz ih.1.ao)
  have e2:G.Zv r=(G.Zv r).take d++X::(G.Zv r).drop (d+1):=by
   have:=kR d (G.Zv r);rw[jk ((gB.mp hX).1),(gB.mp hX).2]at this;exact this.symm
  refine D e (?_:DL G (nw++G.ZE r::gw.flatten) ((nw++(G.Zv r).take d)++G.ZE r'::((G.Zv r).drop (d+1)++gw.flatten)));refine D hl ?_;have h1:DL G (nw++G.ZE r::gw.flatten) (nw++(G.Zv r++gw.flatten)):=h1;rw[e2]at h1;rw[gW];rw[gW]at h1;exact h1
theorem Oi{N:M->bn}{F:M->M}:∀{row:V M},(fo N F row).2=pH->∀a∈row,N a=pH
 | [],_,a,h=>by cases h
 | s::r,h,a,ha=>by
  cases hs:N s with
  | false=>rw[QE hs]at h;exact ft h
  | true=>
   rw[M1 hs]at h
   rcases gX.mp ha with rfl | ha
   .exact hs
   .exact Oi h a ha
noncomputable def Xq(G:Gm)(F:M->M)(t:M)(row:V M):Prop:=∃α sC β,row=α++sC::β/\(∀a∈α,Gl G a)/\(F sC).testBit t=pH
theorem Pa.fol(h:Pa G S F t tr v0 σ gw):v0.2.2<=1/\(v0.2.2=1->Xq G F t gw.flatten):=by
 refine h (λv0 ø gw=>v0.2.2<=1/\(v0.2.2=1->Xq G F t gw.flatten)) ⟨gE _,λh=>(sN ke h).elim⟩ (λih ø ø=>ih) λ{p r d f X r' σ gw} ih hX _ ZP hl=>?_
 .refine xA ih λi1 i2=>(?_:uK G F t (r,d) f<=1/\(uK G F t (r,d) f=1->Xq G F t ((G.Zv r).drop (d+1)++gw.flatten)))
  unfold uK
  by_cases q:(fo (vU G) F ((G.Zv r).drop (d+1))).1.testBit t=pH
  .refine D (sI q) ⟨gC _,λø=>?_⟩;exact w5 (J7 q) λα sC β e h1 h2=>(Fb α sC (β++gw.flatten) (by (refine D e ?_;rewrite[gW]);rfl) (λa ha=>wq.mp (h1 a ha)) h2)
  .refine D (sH q) ?_
   by_cases o:(fo (vU G) F ((G.Zv r).drop (d+1))).2=pH
   .refine D (sI o) ⟨i1,λe=>?_⟩;refine w5 (i2 e) λα sC β e h1 h2=>(Fb ((G.Zv r).drop (d+1)++α) sC β (by rw[e,gW]) (λa ha=>?_) h2)
    rcases gP.mp ha with ha | ha
    .exact wq.mp (Oi o a ha)
    .exact h1 a ha
   .exact D (sH o) ⟨gE _,λh=>(sN ke h).elim⟩
noncomputable abbrev Ln:=V (Vx×sF (al×Vx))
variable {ip:Ln}
noncomputable def PK(G:Gm)(v:Vx):V M:=[v.1,G.it v.2.1,v.2.2]
noncomputable def Tz(G:Gm):sF (al×Vx)->LV
 | none=>.none
 | some q=>R4 G q
noncomputable def Ki(G:Gm)(L:Ln):V (LV×LV):=dT (λq=>PK G q.1) (λq=>Tz G q.2) L
noncomputable def GQ(G:Gm)(L:Ln):V LV:=L.map λq=>Iq G q.1
noncomputable abbrev II(G:Gm)(S:V SR)(F:M->M)(t:M)(tr:sF (V M))(L:Ln):Prop:=(L.map λq=>PK G q.1).Nodup/\L[0]?=J ((0,(0,0),0),sD)/\(∀(i:M) v o,L[i]?=J (v,o)->i≠0->∃j y u o',o=J (y,u)/\j<i/\L[j]?=J (u,o')/\(y,v)∈wk G S F t tr u)/\∀v o,(v,o)∈L->G.Ok v.2.1/\v.2.2<=1
def II.nd(h:II G S F t tr ip):=h.1
def II.aT(h:II G S F t tr ip):=h.2.1
def II.par(h:II G S F t tr ip):=h.2.2.1
def II.ok(h:II G S F t tr ip):=h.2.2.2
theorem Dc(h:(hs,ik)∈wk G S F t tr v0):∃X,(G.Zv v0.2.1.1)[v0.2.1.2]?=J X/\((∃q,hs=(X:M)/\Bo S tr v0.1 X=J q/\ik=(q,(v0.2.1.1,v0.2.1.2+1),v0.2.2))\/(hs=-1/\G.aa<=X/\∃r,r<R G.ZF/\G.ZE r=X/\ik=(v0.1,(r,0),uK G F t v0.2.1 v0.2.2))):=by
 unfold wk at h;cases hX:(G.Zv v0.2.1.1)[v0.2.1.2]? with
 | none=>rw[hX]at h;cases h
 | some X=>
  rw[hX]at h;refine(ti X H ?_)
  rcases gP.mp h with h | h
  .unfold Tv at h;cases hq:Bo S tr v0.1 X with
   | none=>rw[hq]at h;cases h
   | some q=>
    rw[hq]at h;have e:=gJ.mp h
    (refine xA (iX e) λe8 e9=>?_;refine D e8 ?_;refine D e9 ?_)
    exact .inl (tC q H rfl rfl)
  .unfold R5 at h
   split at h
   .rename_i hc
    refine s9 (gL.mp h) λr hr e=>xA (vK.mp hr) λh1 h2=>?_
    (refine xA (iX e) λe8 e9=>?_;refine D e8 ?_;refine tj e9 ?_)
    exact .inr (uS H hc (tC r h1 h2 H))
   .cases h
noncomputable def YM.ZA(A:Ag)(G:Gm)(z:Vx×sF LV×sF LV):uZ:=[J (Y A.ae),J (Y A.az),J (Iq G z.1),J (Y A.aE),J (Y A.au),z.2.1,z.2.2]
noncomputable def Bp(ρ:V (V M)):V LV:=ρ.map λr=>f2 (nL r)
noncomputable abbrev Xr(G:Gm)(S:V SR)(F:M->M)(t:M)(tr:sF (V M))(A:Ag)(st:LH)(L:Ln)(v0:Vx)(m:M)(z:Vx×sF LV×sF LV)(s:LH):Prop:=∃sy rs o,sX st s [(A.au,f1 (Bp rs)),(A.aE,f1 (nL sy))]/\L[m]?=J (z.1,o)/\R sy+R rs+m<=R L/\∀σ ρ,Pa G S F t tr z.1 σ ρ->Pa G S F t tr v0 (σ++sy.reverse) (rs++ρ)
noncomputable def Xr.ex{z:Vx×sF LV×sF LV}(h:Xr G S F t tr gk E ip v0 m z s):=h
theorem Kj(I:II G S F t tr ip)(hp:s a=J (f8 (Ki G ip))){o:sF (al×Vx)}(hi:ip[i]?=J (v0,o)):Op (qi (Y a) (Iq G v0)) s (Tz G o):=
 dO (key:=λq:Vx×sF (al×Vx)=>PK G q.1) (val:=λq=>Tz G q.2) (q:=(v0,o)) hp I.nd (gz hi)
theorem Ni:Bp gw++[f2 (nL w)]=Bp (gw++[w]):=by unfold Bp;exact D gF H
theorem TA(h:GX E g G x)(hF:G.ZU)(hf:FX E f d a g nu fm G F)(I:II G S F t tr ip)(hp:E c=J (f8 (Ki G ip)))(hz:R ip<=10000000){z:Vx×sF LV×sF LV}(rC:Xr G S F t tr ⟨f,c,c1,c2,0,0,[],[]⟩ E ip v0 m z s)(hm:m≠0)
  (hK:∀fl em s',ue (zI (YM.ZA ⟨f,c,c1,c2,0,0,[],[]⟩ G) λz s=>∃m',m'<m/\Xr G S F t tr ⟨f,c,c1,c2,0,0,[],[]⟩ E ip v0 m' z s) K' fl em s'->Kb fl em s'):xu (YM.ZA ⟨f,c,c1,c2,0,0,[],[]⟩ G z) s Kb:=by
 refine t9 rC.ex λsy rs o O hL hlen hP=>?_
 (refine Ci (I.par m _ _ hL hm) λj y u o' e9 hj ü Ty=>?_;subst e9)
 refine s9 (Dc Ty) λX hX hc=>dK (rE (Z H) (Z H) (Kj I (O.le _ _ hp) hL)) H (sP ?_)
 rcases hc with ⟨q,rfl,hg,e⟩ | ⟨rfl,hc,r,hr,hl,e⟩
 .refine cL (t:=pH) (tj (sM (ig X)) (rL (Z H) rD rY)) (λø=>?_) λq=>tf q
  refine cU O 1 H (Z H) (Z H) (D (sU _) (Dp [10000000,16777215] 0x424090a7310000800128403 H hz hlen)) λs O=>sP ?_
  rw[wQ]at O;refine cI (Z H) (hK .next _ _ (vA (u,J (f0 (X:M)),J (Iq G u)) H j hj ⟨sy++[X],rs,o',O,ü,by refine D gK (D jU ?_);exact Mq [1] 0x398a00900000488304274148000403 H hlen hj,λσ ρ Ï=>?_⟩))
  (refine D List.reverse_append (D List.reverse_singleton ?_);rewrite[<- gW]);exact(hP (σ++[X]) ρ (D (show z.1=_ from e) (.go Ï hX hg)))
 .refine cL (t:=Zt) (rL (Z H) rD (rY (p:=-1) (q:=0))) (λq=>ft q) λø=>cU O 0 H (Z H) (rK (Z H) (cK (hf.Zz O.le).ar) (cE (rE (Z H) rD (r8 (n:=1) H)) cF) (Rf (h.Zz O.le) hF.toSm (hf.Zz O.le) ((I.ok u o' (gz ü)).1) hX)) (by unfold Bp;exact D (gy _) (Dp [10000000,16777215] 0x424090a7218000800128403 H hz hlen)) λs O=>sP ?_
  rw[Ni]at O;refine cI (Z H) (hK .next _ _ (vA (u,J (f0 (-1)),J (Iq G u)) H j hj ⟨sy,rs++[(G.Zv u.2.1.1).drop (u.2.1.2+1)],o',O,ü,by refine D gK (D jU ?_);exact Mq [1] 0x398012808000488304274148000403 H hlen hj,λσ ρ Ï=>?_⟩));rw[gW];exact(hP σ ((G.Zv u.2.1.1).drop (u.2.1.2+1)::ρ) (D (show z.1=_ from e) (.op Ï hX hc hr hl)))
theorem L7(h:GX E g G x)(hF:G.ZU)(hf:FX E f d a g nu fm G F)(I:II G S F t tr ip)(hp:E c=J (f8 (Ki G ip)))(hz:R ip<=10000000){o:sF (al×Vx)}(hi:ip[i]?=J (v0,o))
  (k:∀Db dp rl σ ρ s',Pa G S F t tr v0 σ ρ->R σ+R ρ<=R ip->Le E s'->s' Db=J (f4 577 dp [f2 (nL σ),Y rl])->s' rl=J (f1 (Bp ρ))->K (Y Db) s'):wJ [Y f,Y c,Iq G v0] E K:=by
 refine Di (dC (sX.init E) λc1 s O=>(dC O λc2 s O=>(L.Do (loc:=YM.ZA ⟨f,c,c1,c2,0,0,[],[]⟩ G) (z0:=(v0,sD,sD)) (Xr G S F t tr ⟨f,c,c1,c2,0,0,[],[]⟩ E ip v0) (m0:=i) ⟨[],[],o,O,hi,by refine(?_:0+0+i<=_);exact tD [0] 0x290010048520422 H ((gB.mp hi).1),λσ ρ h=>D List.reverse_nil (D (gY _) h)⟩ λm z s rC=>?_)));refine t9 rC.ex λsy rs o' O hL hlen hP=>?_
 by_cases hm:m=0
 .subst hm;have e:(z.1,o')=((0,(0,0),0),sD):=gv (hL.symm.trans I.aT);have e2:o'=sD:=sJ j3 e;subst e2;refine(tC Zt (rL (rE (Z H) (Z H) (Kj I (O.le _ _ hp) hL)) rD (sg (y:=.none))) (λq=>(ft q)) (λø=>sP ?_));have Ï:=hP [] [] (D (sJ gS e:z.1=(0,(0,0),0)) .nil);rw[mq,gY]at Ï;refine cZ (eG (cC (Z (v:=Y c1) H _ (uY _ _ H (O.Zu 1 H) (D (sU _) (D sS (uy [10000000,0,16777216] 0x1048121421310000800128403 H hz hlen))) (cG H (cH λDb dp Ö hd Z0=>JS ?_))))));have O:=O.new (o:=f4 577 dp []) Ö;refine cS O 0 H (Z H) (Z H) (gE _) λs O=>cS O 0 H (Z H) (Z H) (gC 1) λs O=>⟨H,?_⟩
  refine k Db dp c2 sy.reverse rs s Ï (D oP (uy [0] 0x31480090c00948000402 H hlen)) O.le ?_ (O.Zu 1 H);have:=O.Zu 0 H;rw[show(nL sy).reverse=nL sy.reverse by unfold nL;exact D List.map_reverse H]at this;exact this
 ·(refine PM (I.par m _ _ hL hm) λj y u o2 e9 ø=>?_;subst e9)
  exact(tC pH (rL (rE (Z H) (Z H) (Kj I (O.le _ _ hp) hL)) rD (sf (y:=.none) nofun)) (λø Kb hK=>TA h hF hf I hp hz rC hm hK) (λq=>tf q))
theorem Rg(h:i<=t*40)(hz:t<=X)(k:Nat.ble (X*40) m=pH):i<=m:=gA h (gA (kA 40 hz) (gQ k))
theorem TB{bv:Type}{loc:bv->uZ}{z0:bv}(inv:M->bv->LH->Prop)(hl:∀i z s,inv i z s->s l=J (f1 vs))(h0:inv 0 z0 s)
  (step:∀i v z s (K':KS),vs[i]?=J v->inv i z s->(∀fl em s',ue (zI loc (inv (i+1))) Kb fl em s'->K' fl em s')->∃x y,v=f2 [x,y]/\bb (((loc z).set k (J x)).set j (J y)) s K')
  (fin:∀z s,inv (R vs) z s->Kb .next (loc z) s):IV (Qw (qG k j) bb (loc z0) Kb) (Y l) s:=
 Gk (hl _ _ _ h0) (IY (λi=>zI loc (inv i)) ⟨z0,H,h0⟩ (λi ρ s ZN=>s9 ZN λz ø h=>hl _ _ _ h) (λi v ρ s K' hv ZN hK=>s9 ZN λz e h=>e▸step i v z s K' hv h hK) λρ s ZN=>s9 ZN λz e h=>e▸fin z s h)
theorem eX{y:LV}(O:sX E s pre)(i:M)(e:pre[i]?=J (c,ob))(hv:Ev mb ρ s y)(ho:Ev mo ρ s (Y c))(hi:Ev ma ρ s v)(hs:qA s (Y c) v y=J (ur s c o'))(k:∀s',sX E s' (pre.set i (c,o'))->bb ρ s' Kb):qo (qB mo ma mb) bb ρ s Kb:=
 hv _ (ho _ (hi _ (ti _ hs (k _ (O.set i e _)))))
noncomputable def Nj(S:V SR):sF (V M)->M
 | none=>R S
 | some T=>R T+1
noncomputable def Mt(e:M)(p:M×M)(mf:bn)(v:Vx):Prop:=v.1=e/\v.2.1=p/\(v.2.2=1\/mf=Zt)
theorem Rh(B:x4 G S)(h:Bo S tr i X=J t):t<Nj S tr:=by
 cases tr with
 | none=>exact B.ġ h
 | some T=>
  have h:(if T[i]?=J X then J (i+1) else sD)=J t:=h
  split at h
  .rename_i e
   refine tj (gv h) ?_;exact Nat.succ_lt_succ (gB.mp e).1
  .exact uH h
theorem II.bS(B:x4 G S)(I:II G S F t tr ip)(n:M):∀(i:M) v0 o,i<n->ip[i]?=J (v0,o)->v0.1<Nj S tr:=by
 induction n with
 | zero=>exact λi v0 o hn ø=>absurd hn (iF _)
 | succ n ih=>
  intro i v0 o hn h
  by_cases hi:i=0
  .subst hi;refine tj (iX (gv (I.aT.symm.trans h))).1 ?_;cases tr with
   | none=>exact s9 B.aT λr hr ø=>(gB.mp hr).1
   | some T=>exact mV _
  .refine Ci (I.par i v0 o h hi) λj y u o' e9 hj hL hs=>s9 (Dc hs) λX ø hc=>?_
   rcases hc with ⟨q,_,hg,e⟩ | ⟨_,_,r,_,_,e⟩
   .exact D e (Rh B hg)
   .exact D e (ih j u o' (uy [1] 0x2902531021004a030423 H hn hj) hL)
noncomputable def U0(N:M):V (V M):=(gN N).flatMap λa=>(gN 20).flatMap λi=>[[a,i,0],[a,i,1]]
theorem Pr(N:M):R (U0 N)=N*40:=
 D nX (D (show(λa=>R ((gN 20).flatMap λi=>[[a,i,0],[a,i,1]]))=λø=>40 from H) (D lE (D pk (D iq H))))
theorem II.len(hS:G.Sm)(B:x4 G S)(I:II G S F t tr ip):R ip<=Nj S tr*40:=by
 have h:=tP (m:=U0 (Nj S tr)) I.nd λk hk=>by
  obtain ⟨⟨v,o⟩,hv,rfl⟩:=gL.mp hk;refine xE (ie hv) λi hi=>?_
  refine xA (I.ok v o hv) λh1 h2=>l9.mpr (ti v.1 (iM.mpr (I.bS B (i+1) i v o (iC _) hi)) (l9.mpr (ti (G.it v.2.1) (iM.mpr (ij h1.lt hS.cnt)) ?_)))
  show [v.1,G.it v.2.1,v.2.2]∈_
  rcases pq.mp h2 with e | e<;>refine D e ?_
  .exact gI
  .exact gH _ gI
 rw[Pr,gy]at h;exact h
theorem Pt(h:i<=1):uK G F t p i<=1:=by
 unfold uK
 split
 .exact gC _
 .split
  .exact h
  .exact gE _
theorem II.add(I:II G S F t tr ip){o:sF (al×Vx)}(hj:ip[j]?=J (v0,o))(hs:(d7,ik)∈wk G S F t tr v0)(hn:PK G ik∉ip.map λq=>PK G q.1):II G S F t tr (ip++[(ik,J (d7,v0))]):=by
 have IR:=(gB.mp hj).1;refine⟨(D gF (iP.mpr (uS I.nd (u5 _) (λa ha b hb e=>hn (by rw[jc,gJ]at hb;exact(e.trans hb)▸ha))))),?_,λi v' o' h hi=>?_,λv' o' h=>?_⟩
 .refine D (hV (by exact tD [0] 0x80084a428422 H IR)) ?_;exact I.aT
 .by_cases hl:i<R ip
  .rw[hV hl]at h;exact Ci (I.par i v' o' h hi) λj' y' u' o2 e h1 h2 h3=>(zi j' y' u' o2 e h1 (by refine D (hV (by exact uy [] 0x5204a62042530423 H hl h1)) ?_;exact h2) h3)
  .rw[il (jd hl)]at h;have h:=gJ.mp (gz h)
   (refine xA (iX h) λe8 e9=>?_;refine tj e8.symm ?_;refine D e9 ?_)
   exact(zi j d7 v0 o H (by exact uy [] 0x5204a6284a620423 H IR hl) (by refine D (hV IR) ?_;exact hj) hs)
 .rcases gP.mp h with h | h
  .exact I.ok _ _ h
  ·(refine xA (iX (gJ.mp h)) λe8 e9=>?_;refine D e8 ?_;refine D e9 ?_)
   refine xA (I.ok _ _ (gz hj)) λh1 h2=>s9 (Dc hs) λX hX hc=>?_
   rcases hc with ⟨q,_,hg,rfl⟩ | ⟨_,_,r,hr,_,rfl⟩
   .exact⟨⟨h1.ao,(gB.mp hX).1⟩,h2⟩
   .exact⟨⟨hr,gE _⟩,Pt h2⟩
theorem Ri(hX:(G.Zv r)[m]?=J X)(hg:Bo S tr i X=J j):((X:al),(j,(r,m+1),N))∈wk G S F t tr (i,(r,m),N):=by
 refine(?_:_∈(match (G.Zv r)[m]? with | none=>[] | some X=>Tv S tr (i,(r,m),N) X++R5 G F t (i,(r,m),N) X));refine D hX (gV _ (?_:_∈(match Bo S tr i X with | some j=>[((X:al),(j,(r,m+1),N))] | none=>[])));exact D hg (iE _)
theorem Rj(hX:(G.Zv r)[m]?=J X)(hc:G.aa<=X)(hr:j<R G.ZF)(hl:G.ZE j=X):(-1,(i,(j,0),uK G F t (r,m) N))∈wk G S F t tr (i,(r,m),N):=by
 refine(?_:_∈(match (G.Zv r)[m]? with | none=>[] | some X=>Tv S tr (i,(r,m),N) X++R5 G F t (i,(r,m),N) X));refine D hX (gU _ ?_);unfold R5;exact D (sI hc) (gL.mpr (ti j (vK.mpr ⟨hr,hl⟩) H))
theorem Pa.inQ(I:II G S F t tr ip)(cl:∀v0 o,(v0,o)∈ip->∀hs ik,(hs,ik)∈wk G S F t tr v0->∃o',(ik,o')∈ip)(h:Pa G S F t tr v0 σ gw):∃o,(v0,o)∈ip:=
 h (λv0 ø ø=>∃o,(v0,o)∈ip) ⟨_,gz I.aT⟩ (λih hX hg=>xE ih λo ih=>cl _ _ ih _ _ (Ri hX hg)) λih hX hc hr hl=>xE ih λo ih=>cl _ _ ih _ _ (Rj hX hc hr hl)
theorem Pu:Ki G (ip++[(ik,J (hs,v0))])=Ki G ip++[(Iq G ik,R4 G (hs,v0))]:=by unfold Ki dT;exact gF
theorem Pw{o:sF (al×Vx)}:GQ G (ip++[(v0,o)])=GQ G ip++[Iq G v0]:=by unfold GQ;exact gF
noncomputable def Wy.ZA(A:Ag)(G:Gm)(e:M)(p:M×M)(t:M)(mf:bn)(tr:sF (V M))(z:M×sF LV×sF LV×sF LV):uZ:=
 [J (Y A.ae),J (f0 e),J (f0 (G.it p:M)),J (f0 t),J (ii mf),J (VY tr),J (Iq G (0,(0,0),0)),J (Y A.aE),J (Y A.au),J (f0 z.1),z.2.1,z.2.2.1,z.2.2.2]
noncomputable def Rk(G:Gm)(A:Ag)(Q:Ln):V (sE×LO):=[(A.au,f1 (GQ G Q)),(A.aE,f8 (Ki G Q))]
noncomputable abbrev Wz(G:Gm)(S:V SR)(F:M->M)(t:M)(tr:sF (V M))(e:M)(p:M×M)(mf:bn)(n:M)(Q:Ln):Prop:=II G S F t tr Q/\∀(i:M) v o,i<n->Q[i]?=J (v,o)->(∀y w,(y,w)∈wk G S F t tr v->∃o',(w,o')∈Q)/\¬ Mt e p mf v
def Wz.ln(h:Wz G S F t tr i p mf X ip):=h.1
def Wz.cl{n:M}(h:Wz G S F t tr i p mf n ip):=h.2
noncomputable abbrev V0(G:Gm)(S:V SR)(F:M->M)(t:M)(tr:sF (V M))(e:M)(p:M×M)(mf:bn)(A:Ag)(st:LH)(m:M)(z:M×sF LV×sF LV×sF LV)(s:LH):Prop:=(∃Q,sX st s (Rk G A Q)/\Wz G S F t tr e p mf z.1 Q/\z.1<=R Q)/\m=Nj S tr*40 - z.1
def V0.ex{z:M×sF LV×sF LV×sF LV}(h:V0 G S F t tr i p mf gk E m z s):=h.1
def V0.aA{z:M×sF LV×sF LV×sF LV}(h:V0 G S F t tr i p mf gk E m z s):=h.2
noncomputable abbrev V1(G:Gm)(S:V SR)(F:M->M)(t:M)(tr:sF (V M))(e:M)(p:M×M)(mf:bn)(A:Ag)(st:LH)(n:M)(v:Vx)(c:sE)(i:M)(z:M×sF LV×sF LV×sF LV)(s:LH):Prop:=(z.1=n+1/\z.2.1=J (Iq G v))/\∃Q o,sX st s ((c,f1 ((wk G S F t tr v).map (R4 G)))::Rk G A Q)/\Wz G S F t tr e p mf n Q/\Q[n]?=J (v,o)/\∀(j:M) q,j<i->(wk G S F t tr v)[j]?=J q->∃o',(q.2,o')∈Q
def V1.aT{z:M×sF LV×sF LV×sF LV}(h:V1 G S F t tr X p mf gk E m v0 c i z s):=h.1
def V1.ex{z:M×sF LV×sF LV×sF LV}(h:V1 G S F t tr X p mf gk E m v0 c i z s):=h.2
theorem V2(hS:G.Sm)(B:x4 G S)(hz:Nj S tr<=50000){z:M×sF LV×sF LV×sF LV}{q:al×Vx}(hq:(wk G S F t tr v0)[i]?=J q)(rC:V1 G S F t tr N p mf gk E m v0 c i z s)
  (hK:∀fl em s',ue (zI (Wy.ZA gk G N p t mf tr) (V1 G S F t tr N p mf gk E m v0 c (i+1))) Kb fl em s'->K' fl em s'):zM (((Wy.ZA gk G N p t mf tr z).set 11 (J (f0 q.1))).set 12 (J (Iq G q.2))) s K':=by
 obtain ⟨⟨P3,Ã⟩,Q,o,O,I,hv,hd⟩:=rC;obtain ⟨n',z2,z3,z4⟩:=z;subst P3 Ã;have hlen:=I.ln.len hS B;refine cL (rL (Z H) (Z H) (eV (X:=PK G q.2) (O.Zu 2 H) I.ln.nd)) (λh=>?_) λh=>sP ?_
 .have h:PK G q.2∉Q.map λr=>PK G r.1:=by simpa using h
  refine eX O 2 H (cW (Z H) (Z H)) (Z H) (Z H) (xZ (O.Zu 2 H) (Rg hlen hz H) h) λs O=>cU O 1 H (Z H) (Z H) (by unfold GQ;exact D (gy _) (Rg hlen hz H)) λs O=>?_
  have ď:=(gB.mp hv).1;refine hK .next _ _ (ti (m+1,J (Iq G v0),J (f0 q.1),J (Iq G q.2)) H ⟨⟨H,H⟩,Q++[(q.2,J (q.1,v0))],o,?_,⟨I.ln.add hv (gz hq) h,λj v' o' hj h'=>?_⟩,by refine D (hV ď) ?_;exact hv,λj q' hj h'=>?_⟩)
  .unfold Rk;exact D Pw (D Pu O)
  .rw[hV (by exact uy [] 0x5204a62042530423 H ď hj)]at h';exact xA (I.cl j v' o' hj h') λh1 h2=>⟨λy w hs=>(h1 y w hs).imp λo h=>gV _ h,h2⟩
  .by_cases Ą:j=i
   .obtain rfl:=Ą.symm;refine tj (gv (hq.symm.trans h')) ?_;exact⟨_,gU _ (iE _)⟩
   .exact(hd j q' (Io hj Ą) h').imp λo h=>gV _ h
 .have h:PK G q.2∈Q.map λr=>PK G r.1:=by simpa using h
  refine hK .next _ _ (ti (m+1,J (Iq G v0),J (f0 q.1),J (Iq G q.2)) H ⟨⟨H,H⟩,Q,o,O,I,hv,λj q' hj h'=>?_⟩)
  by_cases Ą:j=i
  .obtain rfl:=Ą.symm;refine tj (gv (hq.symm.trans h')) ?_;obtain ⟨⟨w,o'⟩,hw,N⟩:=gL.mp h;refine xA (I.ln.ok w o' hw) λh1 ø=>?_
   have h2:G.Ok q.2.2.1:=by
    refine xA (I.ln.ok _ _ (gz hv)) λh1 h2=>s9 (Dc (gz hq)) λX hX hc=>?_
    rcases hc with ⟨q',_,hg,N⟩ | ⟨_,_,r,hr,_,N⟩<;>refine D N ?_
    .exact⟨h1.ao,(gB.mp hX).1⟩
    .exact⟨hr,gE _⟩
   injection N with e1 N
   injection N with e2 N
   injection N with e3 N
   refine⟨o',?_⟩;exact D (show q.2=w from (ji e1 (ji (dN h1 h2 e2) e3)).symm) hw
  .exact hd j q' (Io hj Ą) h'
theorem TC(h:GX E g G x)(hF:G.ZU)(B:x4 G S)(hA:AX E a g da l G S)(hf:FX E f d a g nu fm G F)(hz:Nj S tr<=50000)(hp:G.Ok p){z:M×sF LV×sF LV×sF LV}
  (W:V0 G S F t tr X p mf ⟨f,0,c1,c2,0,0,[],[]⟩ E m z s) (ZY:∀ip,s c2=J (f1 (GQ G ip))->z.1<R ip)
  (k:∀Db dp rl fl σ ρ s',Pa G S F t tr (X,p,fl) σ ρ->(fl=1\/mf=Zt)->R σ+R ρ<=Nj S tr*40->Le E s'->s' Db=J (f4 577 dp [f2 (nL σ),Y rl])->s' rl=J (f1 (Bp ρ))->K (Y Db) s')
  (hK:∀fl em s',ue (zI (Wy.ZA ⟨f,0,c1,c2,0,0,[],[]⟩ G X p t mf tr) λz s=>∃m',m'<m/\V0 G S F t tr X p mf ⟨f,0,c1,c2,0,0,[],[]⟩ E m' z s) (A3 B3 (tB K)) fl em s'->Kb fl em s'):Bc (Wy.ZA ⟨f,0,c1,c2,0,0,[],[]⟩ G X p t mf tr z) s Kb:=by
 obtain ⟨⟨ip,O,I,_⟩,hm⟩:=W;have ZY:=ZY ip (O.Zu 0 H);have hlen:=I.ln.len hF.toSm B;obtain ⟨⟨v,o⟩,hv⟩ : ∃q,ip[z.1]?=J q:=⟨_,gM ZY⟩;have hl:(GQ G ip)[z.1]?=J (Iq G v):=by unfold GQ;refine D (gG) (D hv ?_);rfl
 refine xA (I.ln.ok v o (gz hv)) λZQ hf1=>cI (rE (Z H) (Z H) (r5 (O.Zu 0 H) hl)) (sP (cJ (cI (rE (Z H) rD rU) (sP (cJ (cL (rO (rL (rE (Z H) rD (r8 H)) (Z H) rZ) λø=>rO (rL (rE (Z H) rD (r8 H)) (Z H) rZ) λø=>rQ (EvB.or (rL (rE (Z H) rD (r8 H)) rD rZ) λø=>EvB.Ŕ (rN (rS (Z H))))) (λq=>?_) λq=>sP ?_))))))
 .obtain ⟨v1,v2,v3⟩:=v;simp only[jn,jo,ud,j6]at q;refine zY q λq1 q2 q3=>?_
  have q1:v1=X:=iQ q1;have q2:v2=p:=dN ZQ hp (iQ q2);subst q1 q2;refine cZ (cT (Z H _ ⟨cK (hf.Zz O.le).ar,cC (cG H (cC (cG H (cH (L7 (h.Zz O.le) hF (hf.Zz O.le) I.ln (O.Zu 1 H) (Rg hlen hz H) hv λDb dp rl σ ρ s' hP ż hle h1 h2=>hK (.ret _) _ _ ?_)))))⟩));exact k Db dp rl v3 σ ρ s' hP (q3.imp (λq=>iQ q) id) (gA ż hlen) (O.le.trans hle) h1 h2
 .have KF:¬ Mt X p mf v:=λZN=>zY ZN λq1 q2 q3=>by
   rw[q1,q2]at q
   rcases q3 with q3 | q3<;>rw[q3]at q<;>simp at q
  refine dE (cX (cT (Z H _ ⟨cK (hf.Zz O.le).ar,cC (cG H (cC (cG H (cC (cG H (cH (Tw (h.Zz O.le) hF B (hA.Zz O.le) (hf.Zz O.le) ZQ (λX=>?_) (RL.ZC O λc s O=>?_))))))))⟩)))
  .subst X;exact(I.ln.bS B (z.1+1) z.1 v o (iC _) hv)
  refine TB (loc:=Wy.ZA ⟨f,0,c1,c2,0,0,[],[]⟩ G X p t mf tr) (z0:=(z.1+1,J (Iq G v),z.2.2.1,z.2.2.2)) (V1 G S F t tr X p mf ⟨f,0,c1,c2,0,0,[],[]⟩ E z.1 v c) (λj z s rC=>vX rC.ex λip o O ø=>O.Zu 0 H) ⟨⟨H,H⟩,ip,o,O,I,hv,λj q hj=>absurd hj (iF _)⟩ (λj w z s K1 hw rC ZW=>?_) λzz s rC=>?_
  .rw[gG]at hw;exact vp w (gR.mp hw) λq hq=>(w1 _ _ H (V2 hF.toSm B hz hq rC ZW))
  .obtain ⟨⟨e1,_⟩,Q',o',O',I',Ń,hd⟩:=rC;refine hK .next _ _ (vA zz H (Nj S tr*40 - (z.1+1)) (D hm (Dp [1,40] 0x2902530467280233046009c0400443 H (gO (uy [40,1] 0x2806109801210c10940320403 H hlen ZY)) (gO (uy [1,40] 0xa119824284600980400442 H (gO (uy [40,1] 0x2806109801210c10940320403 H hlen ZY)))))) ⟨(tC Q' O'.tail ⟨I'.ln,λj v' o2 hj h'=>?_⟩ (uy [1] 0x2902429821004c020443 H e1 ((gB.mp Ń).1))),by exact D e1 H⟩)
   by_cases ĸ:j=z.1
   .obtain rfl:=ĸ.symm;rw[Ń]at h';cases h';refine⟨λy w hs=>?_,KF⟩;refine xE (ie hs) λi hi=>?_
    exact hd i (y,w) (D (gy _) ((gB.mp hi).1)) hi
   .exact I'.cl j v' o2 (Io (e1▸hj) ĸ) h'
theorem V3(h:GX E g G x)(hF:G.ZU)(B:x4 G S)(hA:AX E a g da c G S)(hf:FX E f d a g nu fm G F)(hz:Nj S tr<=50000)(hp:G.Ok p)
  (kn:(∀v σ ρ,Pa G S F t tr v σ ρ->¬ Mt N p mf v)->∀s',Le E s'->K .none s')
  (k:∀Db dp rl fl σ ρ s',Pa G S F t tr (N,p,fl) σ ρ->(fl=1\/mf=Zt)->R σ+R ρ<=Nj S tr*40->Le E s'->s' Db=J (f4 577 dp [f2 (nL σ),Y rl])->s' rl=J (f1 (Bp ρ))->K (Y Db) s'):yc [Y f,f0 N,f0 (G.it p:M),f0 t,ii mf,VY tr] E K:=by
 refine HF (cI (v:=Iq G (0,(0,0),0)) (rG (cE rD (cE (rK (rH (Z H) (rT hf.ar H)) (cK h.hg) (cE rD (cE rD cF)) (Bi h hF.bx)) (cE rD cF))) (gQ H)) (sP (cJ (cQ λc1 hc=>cG H ?_))));have Ų:(ur E c1 (f8 [])) c1=J (f8 (dT (λq:Vx×sF (al×Vx)=>PK G q.1) (λq=>Tz G q.2) [])):=te ..;refine dh ?_;have e0:=xZ (X:=PK G (0,(0,0),0)) (y:=.none) Ų (gE _) (λh=>by cases h);change qA _ (Y c1) (Iq G (0,(0,0),0)) _=J (ur (ur E c1 (f8 [])) c1 (f8 (Ki G [((0,(0,0),0),sD)]))) at e0;refine(ti _ e0 ?_);rw[NZ];have O:=(sX.init E).new (o:=f8 (Ki G [((0,(0,0),0),sD)])) hc;refine cJ (cQ (cV (cC (cG H (cH ⟨gQ H,λc2 wP=>sP ?_⟩)))));have O:=O.new (o:=f1 (GQ G [((0,(0,0),0),sD)])) wP
 refine cI rD (sP (L.Do (loc:=Wy.ZA ⟨f,0,c1,c2,0,0,[],[]⟩ G N p t mf tr) (z0:=(0,sD,sD,sD)) (V0 G S F t tr N p mf ⟨f,0,c1,c2,0,0,[],[]⟩ E) ⟨(tC _ O ⟨(⟨u5 _,H,λi v o hi h0=>(by
  cases i with
  | zero=>exact absurd rfl h0
  | succ i=>exact uH hi),λv o hm=>by
  have hm:=gJ.mp hm
  (refine xA (iX hm) λe8 e9=>?_;refine D e8 ?_;refine D e9 ?_)
  exact⟨⟨hF.bx,gE _⟩,gE _⟩⟩ : II G S F t tr [((0,(0,0),0),sD)]),λi v o hi=>absurd hi (iF _)⟩ (gE _)),H⟩ λm z s W=>(tW W.ex λQ O I hle=>?_)))
 have el:(R (GQ G Q):al)=R Q:=by unfold GQ;exact D (gy _) H
 refine(tC _ (rL (Z H) (rJ (cE (Z H) cF) (sa (O.Zu 0 H))) rX) (λq Kb hK=>TC h hF B hA hf hz hp W (λQ' hQ'=>?_) k hK) (λq=>sP (cP rD (kn (λv σ ρ hP hm=>?_) s O.le))))
 .have q:=sQ q;rw[(LO.list.inj (gv ((O.Zu 0 H).symm.trans hQ')))]at q;unfold GQ at q;rw[gy]at q;exact g8.mp q
 .have q:=sW q;rw[el]at q;have q:=λh=>q (g8.mpr h)
  refine xE (hP.inQ I.ln λv o hv y w hs=>by
   refine xE (ie hv) λi hi=>?_
   exact(I.cl i v o (ij (gB.mp hi).1 (jd q)) hi).1 y w hs) λo ho=>?_
  refine xE (ie ho) λi hi=>?_
  exact(I.cl i v o (ij (gB.mp hi).1 (jd q)) hi).2 hm
noncomputable abbrev OL:=V (M×sF (M×V M))
variable {L' ir:OL}
noncomputable def WA:sF (M×V M)->LV
 | none=>.none
 | some q=>f2 [f0 q.1,f2 (nL q.2)]
noncomputable def Xs(Q:OL):V (LV×LV):=dI gS (λq=>WA q.2) Q
noncomputable def OE(G:Gm)(h sC:M)(tl:V M):Prop:=∃r α,r<R G.ZF/\G.ZE r=h/\G.Zv r=α++sC::tl/\∀a∈α,Gl G a
noncomputable abbrev Mu(G:Gm)(X:M)(Q:OL):Prop:=(Q.map gS).Nodup/\Q[0]?=J (X,sD)/\(∀(i:M) sC o,Q[i]?=J (sC,o)->i≠0->∃j h tl o',o=J (h,tl)/\j<i/\Q[j]?=J (h,o')/\OE G h sC tl)/\∀q∈Q,q.1<R G.ZH
def Mu.nd(h:Mu G X L'):=h.1
def Mu.aT(h:Mu G X L'):=h.2.1
def Mu.par(h:Mu G X L'):=h.2.2.1
def Mu.lt(h:Mu G X L'):=h.2.2.2
noncomputable def OD(G:Gm)(F:M->M)(t:M)(Q:OL)(r:M):Prop:=∀α sC tl,G.Zv r=α++sC::tl->(∀a∈α,Gl G a)->(F sC).testBit t=pH->sC∈Q.map gS
noncomputable abbrev R6(G:Gm)(F:M->M)(t X n:M)(Q:OL):Prop:=Mu G X Q/\∀(i:M) q,i<n->Q[i]?=J q->∀r,r<R G.ZF->G.ZE r=q.1->OD G F t Q r
def R6.ln(h:R6 G F t X i L'):=h.1
def R6.cl{n:M}(h:R6 G F t X n L'):=h.2
noncomputable def Sy(G:Gm)(s:M):Prop:=s=0\/(3<=s/\s<R G.ZH/\s≠G.aa)
theorem Gm.ZU.bF(hF:G.ZU)(hr:r<R G.ZF)(hs:i∈G.Zv r):Sy G i:=by
 have h:=hF.rt r hr i hs
 by_cases e:r=0
 .subst e;rw[hF.t0]at hs
  rcases gX.mp hs with rfl | hs
  .exact .inr (uS (tY [3,1] 0x21200010908008402 H hF.Ý) h (tY [1] 0x2002400441 H))
  .exact .inl (gJ.mp hs)
 .exact .inr (uS ((hF.Ü r hr e i hs).1) h ((hF.Ü r hr e i hs).2))
theorem Kk{N:M->bn}:∀{α β:V M},(∀a∈α,N a=pH)->(F sC).testBit t=pH->(fo N F (α++sC::β)).1.testBit t=pH
 | [],β,_,h=>by
  refine(?_:(fo N F (sC::β)).1.testBit t=pH);cases hY:N sC with
  | true=>(refine D (M1 hY) ?_;rewrite[jt];exact D h (D (Bool.true_or _) H))
  | false=>exact D (QE hY) h
 | a::α,β,Ix,h=>by
  (refine D mh (D (M1 (Ix a gI)) ?_);rewrite[jt];exact D (Kk (λb hb=>Ix b (gH _ hb)) h) (D (nZ _) H))
theorem G3.bit(h:G3 G F)(d:FD G t sC):(F sC).testBit t=pH:=
 d (λsC=>(F sC).testBit t=pH) (λht=>D (h.tm _ ht) mY) λhr e hn ih=>by
  (refine tj (h.cl _ hr) (D e ?_);rewrite[jt];exact D (Kk (λa ha=>wq.mpr (hn a ha)) ih) ((nZ _)))
theorem fT(h:G3 G F)(cl:∀(i:M) q,L'[i]?=J q->∀r,r<R G.ZF->G.ZE r=q.1->OD G F t L' r)(d:FD G t sC):sC∈L'.map gS->t∈L'.map gS:=
 (d (λsC=>FD G t sC/\(sC∈L'.map gS->t∈L'.map gS)) (λht=>⟨.aF ht,id⟩) λhr e hn d=>⟨.ao hr e hn d.1,λhm=>s9 (gL.mp hm) λq hq e2=>xE (ie hq) λi hi=>d.2 (cl i q hi _ hr e2.symm _ _ _ e hn (h.bit d.1))⟩).2
theorem OD.Zz(h:OD G F t ir r)(hm:∀q∈ir,q∈L'):OD G F t L' r:=λα sC tl e Ix hb=>by
 exact s9 (gL.mp (h α sC tl e Ix hb)) λq hq e=>e▸iD (hm q hq)
theorem U1(h:∀(i:M) a,i<j->(G.Zv r)[i]?=J a->Gl G a/\((F a).testBit t=pH->a∈L'.map gS))(h':j=R (G.Zv r)\/∃a,(G.Zv r)[j]?=J a/\¬ Gl G a/\((F a).testBit t=pH->a∈L'.map gS)):OD G F t L' r:=λα sC tl e Ix hb=>by
 have hY:(G.Zv r)[R α]?=J sC:=by refine D e (D (il (gC _)) (D (iI _) ?_));rfl
 have hl:=(gB.mp hY).1
 rcases Nat.lt_trichotomy (R α) j with hj | hj | hj
 .exact(h _ _ hj hY).2 hb
 .rcases h' with h' | ⟨a,h1,_,h3⟩
  .exact(OH [] 0x5304662046520423 H hl hj h').elim
  .rw[hj,h1]at hY;obtain rfl:=gv hY;exact h3 hb
 .rcases h' with h' | ⟨a,h1,h2,_⟩
  .exact(OH [] 0x5304643042520423 H hl hj h').elim
  .rw[e,hV hj]at h1;exact absurd (Ix a (gz h1)) h2
theorem Mu.add(I:Mu G X L'){o:sF (M×V M)}(hj:L'[j]?=J (t,o))(he:OE G t sC w)(hn:sC∉L'.map gS)(hY:sC<R G.ZH):Mu G X (L'++[(sC,J (t,w))]):=by
 have IR:=(gB.mp hj).1;refine⟨(D gF (iP.mpr (uS I.nd (u5 _) (λa ha b hb e=>hn (by rw[jc,gJ]at hb;exact(show a=sC from e.trans hb)▸ha))))),?_,λi v' o' h' hi=>?_,λq h'=>?_⟩
 .refine D (hV (by exact tD [0] 0x80084a428422 H IR)) ?_;exact I.aT
 .by_cases hl:i<R L'
  .rw[hV hl]at h';exact Ci (I.par i v' o' h' hi) λj' y' u' o2 e h1 h2 h3=>(zi j' y' u' o2 e h1 (by refine D (hV (by exact uy [] 0x5204a62042530423 H hl h1)) ?_;exact h2) h3)
  .rw[il (jd hl)]at h';have h':=gJ.mp (gz h')
   (refine xA (iX h') λe8 e9=>?_;refine tj e8.symm ?_;refine D e9 ?_)
   exact(zi j t w o H (by exact uy [] 0x5204a6284a620423 H IR hl) (by refine D (hV IR) ?_;exact hj) he)
 .rcases gP.mp h' with h' | h'
  .exact I.lt _ h'
  .exact D (gJ.mp h') hY
theorem Mu.len(I:Mu G X L'):R L'<=R G.ZH:=by
 have:=tP I.nd λx hx=>by
  exact vp x (gL.mp hx) λq hq=>iM.mpr (I.lt q hq)
 rw[gy,iq]at this;exact this
theorem R6.add(I:R6 G F t X m L'){o:sF (M×V M)}(hj:L'[m]?=J (N,o))(he:OE G N sC w)(hn:sC∉L'.map gS)(hY:sC<R G.ZH):R6 G F t X m (L'++[(sC,J (N,w))]):=
 ⟨I.ln.add hj he hn hY,λi q hi hq r hr hl=>(I.cl i q hi (by rw[hV (mI hi (gB.mp hj).1)]at hq;exact hq) r hr hl).Zz λq hq=>gV _ hq⟩
theorem Rl{q:M×sF (M×V M)}:Xs (L'++[q])=Xs L'++[(f0 (q.1:M),WA q.2)]:=by unfold Xs dI;exact gF
theorem eC{l:V M}{n:M}(h:Ev e ρ s (f2 (nL l)))(g:Ev mo ρ s (f0 n))(hn:n<=R l)(hz:R l<=10000000):Ev (qj e mo (pG .none)) ρ s (f2 (nL (l.drop n))):=λK k=>
 h _ (g _ (AV (ig _) (D (sU _) (jf.mpr hn)) (D (sU _) (D sS (tY [10000000,16777216] 0x4240900120402 H hz))) (D (jl _) (D (show(nL l).drop n=nL (l.drop n) by unfold nL;exact D mX H) k))))
theorem fF:Op (qP [f2 vs]) s (f2 vs):=λK k=>(tU _ _ H (.inl H) k)
noncomputable abbrev Z5:=sF LV×sF LV×sF LV×sF LV×sF LV
noncomputable def R7.ZA(f c1 c2:sE)(X t n:M)(z:Z5):uZ:=[J (Y f),J (f0 X),J (f0 t),J (Y c1),J (Y c2),J (f0 n),z.1,z.2.1,z.2.2.1,z.2.2.2.1,z.2.2.2.2,sD,sD]
noncomputable def L8(c1 c2:sE)(Q:OL):V (sE×LO):=[(c2,f1 (nL (Q.map gS))),(c1,f8 (Xs Q))]
noncomputable abbrev KN(G:Gm)(F:M->M)(t X:M)(c1 c2 c:sE)(st:LH)(n sC i:M)(Q:OL)(s:LH):Prop:=sX st s ((c,f1 (nL (G.ZL sC)))::L8 c1 c2 Q)/\R6 G F t X n Q/\(∃o,Q[n]?=J (sC,o))/\∀(j:M) r,j<i->(G.ZL sC)[j]?=J r->OD G F t Q r
def KN.ZC(h:KN G F t X c1 c2 c E m sC i L' s):=h.1
def KN.aG(h:KN G F t X c1 c2 c E m sC i L' s):=h.2.1
def KN.ZT(h:KN G F t X c1 c2 c E m sC i L' s):=h.2.2.1
def KN.dn(h:KN G F t X c1 c2 c E m sC i L' s):=h.2.2.2
noncomputable def Xt(G:Gm)(F:M->M)(t:M)(r j:M)(Q:OL):Prop:=∀(i:M) a,i<j->(G.Zv r)[i]?=J a->Gl G a/\((F a).testBit t=pH->a∈Q.map gS)
noncomputable def WB(G:Gm)(F:M->M)(t X:M)(c1 c2 c:sE)(st:LH)(n sC i:M)(z:Z5)(s:LH):Prop:=z.1=J (f0 (sC:M))/\∃Q,KN G F t X c1 c2 c st n sC i Q s
noncomputable def Xu.ZA(f c1 c2:sE)(X t n sC r:M)(bi:V M)(z:sF LV×sF LV):uZ:=R7.ZA f c1 c2 X t (n+1) (J (f0 sC),J (f0 r),J (f2 (nL bi)),z.1,z.2)
noncomputable abbrev Rn(G:Gm)(t:M)(Q:OL)(m:M)(z:M×V M×sF LV)(s' s:LH):Prop:=s=s'/\(∃o,Q[m]?=J (z.1,o))/\DL G [z.1] (t::z.2.1)/\R z.2.1+3*m<=3*R Q/\∀a∈z.2.1,Sy G a
def Rn.ay{z:M×V M×sF LV}(h:Rn G t L' m z E s):=h.1
def Rn.ZT{z:M×V M×sF LV}(h:Rn G t L' m z E s):=h.2.1
def Rn.au{z:M×V M×sF LV}(h:Rn G t L' m z E s):=h.2.2.1
def Rn.len{z:M×V M×sF LV}(h:Rn G t L' m z E s):=h.2.2.2.1
def Rn.bF{z:M×V M×sF LV}(h:Rn G t L' m z E s):=h.2.2.2.2
theorem KN.Zz(I:KN G F t X c1 c2 c E m sC i L' s)(hi:(G.ZL sC)[i]?=J r)(h:OD G F t L' r):KN G F t X c1 c2 c E m sC (i+1) L' s:=⟨I.ZC,I.aG,I.ZT,λk r' hk ZP=>by
 by_cases e:k=i
 .obtain rfl:=e.symm;refine tj (gv (hi.symm.trans ZP)) ?_;exact h
 .exact I.dn k r' (Io hk e) ZP⟩
theorem Oj(hn:E nu=J (f1 (D0 G)))(Ā:E f=J (f4 656 d [Y a,Y g,Y nu,Y fm]))(hS:G.Sm)(sK:r<R G.ZF)(hi:(G.ZL sC)[i]?=J r)(hb:(G.Zv r)[j]?=J m)(I:KN G F t X c1 c2 c E N sC i L' s)(am:Xt G F t r j L')(hm:(F m).testBit t=pH->m∈L'.map gS)
  (Ĩ:∀z s,WB G F t X c1 c2 c E N sC (i+1) z s->Kb .next (R7.ZA f c1 c2 X t (N+1) z) s)
  (hK:∀fl em s',ue (zI (Xu.ZA f c1 c2 X t N sC r (G.Zv r)) λz s=>∃L',KN G F t X c1 c2 c E N sC i L' s/\Xt G F t r (j+1) L') Kb fl em s'->K' fl em s'):wZ (Xu.ZA f c1 c2 X t N sC r (G.Zv r) (J (f0 j),J (f0 m))) s K':=by
 refine cL (rN (rS (rE (rH (Z H) (rT (I.ZC.le _ _ Ā) H)) (Z H) (r5 (I.ZC.le _ _ hn) (ux (hS.ZT sK hb)))))) (λq=>?_) λq=>sP (fX ?_)
 .have q:¬ Gl G m:=λh=>by rw[wq.mpr h]at q;exact ft q
  exact gb (WQ (WQ (hK .brk _ _ (Ĩ (J (f0 sC),J (f0 r),J (f2 (nL (G.Zv r))),J (f0 j),J (f0 m)) s ⟨H,L',I.Zz hi (U1 am (.inr (tC m hb q hm)))⟩))))
 .refine hK .next _ _ (vA (J (f0 j),J (f0 m)) H L' I (λk b' hk WF=>?_))
  by_cases e:k=j
  .obtain rfl:=e.symm;refine tj (gv (hb.symm.trans WF)) ?_;exact⟨(wq.mp (by simpa using q)),hm⟩
  .exact am k b' (Io hk e) WF
theorem TF{z:sF LV×sF LV}(hF:G.ZU)(hf:FX E f d a g nu fm G F)(sK:r<R G.ZF)(hl:G.ZE r=sC)(hi:(G.ZL sC)[i]?=J r)(hj:j<R (G.Zv r))(rC:∃L',KN G F t X c1 c2 c E m sC i L' s/\Xt G F t r j L')
  (Ĩ:∀z s,WB G F t X c1 c2 c E m sC (i+1) z s->Kb .next (R7.ZA f c1 c2 X t (m+1) z) s)
  (hK:∀fl em s',ue (zI (Xu.ZA f c1 c2 X t m sC r (G.Zv r)) λz s=>∃L',KN G F t X c1 c2 c E m sC i L' s/\Xt G F t r (j+1) L') Kb fl em s'->K' fl em s'):xh ((Xu.ZA f c1 c2 X t m sC r (G.Zv r) z).set 9 (J (f0 j))) s K':=by
 have hS:=hF.toSm;refine s9 rC λL' I am=>?_
 have hb:=gM hj;generalize (G.Zv r)[j]=b at hb;refine cI (rE (Z H) (Z H) (r8 (xk hb))) (sP ?_)
 have e1:EvB (pX (qk Zt) (pI p9 (pI qc (pI qi (L.Zx 656 3 (U 0)) (U 10)) (U 2)) (pG (f0 1))) (pG (f0 1))) (Xu.ZA f c1 c2 X t m sC r (G.Zv r) (J (f0 j),J (f0 b))) s ((F b).testBit t):=by
  rw[<- HQ];exact rL (rE (rE (rE (rH (Z H) (rT (hf.Zz I.ZC.le).ar H)) (Z H) (r5 (hf.Zz I.ZC.le).bE (ux (hS.ZT sK hb)))) (Z H) sk) rD (si)) rD rZ
 refine cL (rO e1 λø=>rQ (rL (Z H) (Z H) (eT (I.ZC.Zu 2 H) I.aG.ln.nd))) (λq=>?_) λq=>sP ?_
 .refine xA ((jn ..).mp q) λq1 q2=>?_
  have q2:b∉L'.map gS:=by simpa using q2
  refine xE I.ZT λo ho=>eX I.ZC 2 H (y:=WA (J (sC,(G.Zv r).drop (j+1)))) (cW (Z H) (rJ (cE (eC (Z H) (rE (Z H) rD rU) hj (tY [3,10000000] 0x4240900120402 H (hS.au r))) cF) fF)) (Z H) (Z H) (Bj (y:=WA (J (sC,(G.Zv r).drop (j+1)))) (I.ZC.Zu 2 H) (tD [8,10000000] 0x424090012840520403 H I.aG.ln.len hS.n) q2) λs O=>cU O 1 H (Z H) (Z H) (D (sU _) (D (gy _) (tD [8,16777215] 0x424090012840520403 H I.aG.ln.len hS.n))) λs O=>?_
  exact Oj hf.a7 hf.ar hS sK hi hb (⟨by
   unfold L8
   (refine D Rl (D gF ?_);rewrite[<- yd]);exact O,I.aG.add ho ((uY r ((G.Zv r).take j) sK hl (by
   exact((gB.mp hb).2▸jk hj▸(kR j (G.Zv r))).symm) (λb' WF=>by
   refine xE (ie WF) λk hk=>?_
   exact xA (G8 hk) λup Os=>(am k b' up Os).1)):OE G sC b ((G.Zv r).drop (j+1))) q2 (hS.ZT sK hb),⟨o,by refine D (hV (gB.mp ho).1) ?_;exact ho⟩,λk r' hk ZP=>(I.dn k r' hk ZP).Zz λq hq=>gV _ hq⟩ : KN G F t X c1 c2 c E m sC i (L'++[(b,J (sC,(G.Zv r).drop (j+1)))]) s) (λk b' hk WF=>(am k b' hk WF).imp id λh hb=>D gF (gV _ (h hb))) (λø=>D gF (gU _ (iE _))) Ĩ hK
 .exact Oj hf.a7 hf.ar hS sK hi hb I am (λh=>by have q:=h▸q;simpa using q) Ĩ hK
theorem TG(h:GX E g G x)(hF:G.ZU)(hf:FX E f d a g nu fm G F)(hv:(nL (G.ZL sC))[i]?=J v){z:Z5}(rC:WB G F t X c1 c2 c E m sC i z s)
  (hK:∀fl em s',ue (zI (R7.ZA f c1 c2 X t (m+1)) (WB G F t X c1 c2 c E m sC (i+1))) Kb fl em s'->K' fl em s'):yl ((R7.ZA f c1 c2 X t (m+1) z).set 7 (J v)) s K':=by
 refine Bt v (wa hv) λr hr=>xA (vK.mp (gz hr)) λsK hl=>?_
 obtain ⟨z1,z2,z3,z4,z5⟩:=z
 (refine xA rC λhz r9=>xE r9 λQ I=>?_)
 subst hz;have hx:=h.Zz I.ZC.le;refine vL (hx.rule sK) λra rd ZM ha ol=>cI (rH (rE (rH (rH (Z H) (rT (hf.Zz I.ZC.le).ar H)) (rT hx.hg H)) (Z H) (r5 hx.Z2 (vl ha))) (rT ol H)) (sP ?_)
 have fin:∀z s,WB G F t X c1 c2 c E m sC (i+1) z s->(A3 qm K') .next (R7.ZA f c1 c2 X t (m+1) z) s:=λz s rC=>hK .next _ _ (ti z H rC)
 exact dH (z0:=(z4,z5)) (n:=R (G.Zv r)) (λj ø s=>∃Q,KN G F t X c1 c2 c E m sC i Q s/\Xt G F t r j Q) (tj (sU (G.Zv r)) (rJ (cE (Z H) cF) sb)) (tY [3,1099511627776] 0x4240900120402 H (hF.au r)) ⟨Q,I,λi a hi=>absurd hi (iF _)⟩ (λj z s K1 hj rC ZW=>TF hF hf sK hl hr hj rC fin ZW) λz s ZN=>s9 ZN λQ I am=>fin (J (f0 sC),J (f0 r),J (f2 (nL (G.Zv r))),z.1,z.2) s ⟨H,Q,I.Zz hr (U1 am (.inl H))⟩
noncomputable abbrev WC(G:Gm)(F:M->M)(t X:M)(c1 c2:sE)(st:LH)(m:M)(z:M×Z5)(s:LH):Prop:=(∃L',sX st s (L8 c1 c2 L')/\R6 G F t X z.1 L'/\z.1<=R L')/\m=R G.ZH - z.1
def WC.ex{z:M×Z5}(h:WC G F t X c1 c2 E m z s):=h.1
def WC.aA{z:M×Z5}(h:WC G F t X c1 c2 E m z s):=h.2
theorem TH(h:GX E g G x)(hF:G.ZU)(hf:FX E f d a g nu fm G F){z:Z5}(O:sX E s (L8 c1 c2 L'))(I:R6 G F t X m L')(hn:m<R L')
  (hK:∀fl em s',ue (zI (λz:M×Z5=>R7.ZA f c1 c2 X t z.1 z.2) λz s=>∃m',m'<R G.ZH - m/\WC G F t X c1 c2 E m' z s) K' fl em s'->Kb fl em s'):zN (R7.ZA f c1 c2 X t m z) s Kb:=by
 obtain ⟨⟨sC,o⟩,hY⟩ : ∃q,L'[m]?=J q:=⟨_,gM hn⟩;have hl:(L'.map gS)[m]?=J sC:=by refine D (gG) (D hY ?_);rfl
 refine cI (rE (Z H) (Z H) (r5 (O.Zu 0 H) (xk hl))) (sP (cJ (cI (rE (Z H) rD rU) (sP (cJ (dE (cX (cT (rH (Z H) (rT (hf.Zz O.le).ar H) _ ⟨cK (h.Zz O.le).hg,cC (cG H (cH (BR (h.Zz O.le) hF.toSm (I.ln.lt _ (gz hY)) (RL.ZC O λc s O=>?_))))⟩)))))))));refine yR (z0:=(J (f0 sC),z.2)) (WB G F t X c1 c2 c E m sC) (λj z s rC=>rC.2.elim λL' I=>I.ZC.Zu 0 H) ⟨H,L',O,I,⟨o,hY⟩,λj r hj=>absurd hj (iF _)⟩ (λj v z s K1 hv rC ZW=>TG h hF hf hv rC ZW) λz s rC=>sP (hK .next _ _ (vA (m+1,z) H _ (pv (ij hn I.ln.len) (iC m)) ⟨?_,H⟩))
 (refine xA rC λø r9=>xE r9 λQ' I'=>?_)
 refine xE I'.ZT λo' ļ=>(tC Q' I'.ZC.tail ⟨I'.aG.ln,λi q hi hq r hr hl=>?_⟩ ((gB.mp ļ).1))
 by_cases e:i=m
 .obtain rfl:=e.symm;obtain rfl:=gv (ļ.symm.trans hq);refine xE (ie (vK.mpr ⟨hr,hl⟩)) λj hj=>?_
  exact I'.dn j r (D (sU _) ((gB.mp hj).1)) hj
 .exact I'.aG.cl i q (Io hi e) hq r hr hl
noncomputable def Y7.ZA(f c1 c2:sE)(X t n:M)(w:sF LV×sF LV×sF LV×sF LV)(z:M×V M×sF LV):uZ:=[J (Y f),J (f0 X),J (f0 t),J (Y c1),J (Y c2),J (f0 n),J (f0 z.1),w.1,w.2.1,w.2.2.1,w.2.2.2,J (f2 (nL z.2.1)),z.2.2]
theorem TJ(hF:G.ZU){z:Z5}(O:sX E s (L8 c1 c2 L'))(I:Mu G X L')(ht:t∈L'.map gS)(k:∀δ s',DL G [X] (t::δ)->R δ<=24->(∀a∈δ,Sy G a)->Le E s'->K (f2 (nL δ)) s'):Ak (R7.ZA f c1 c2 X t i z) s (tB K):=by
 obtain ⟨⟨t',o⟩,hm,rfl⟩:=gL.mp ht;refine xE (ie hm) λm0 H_=>?_
 refine cI (rG cF (gE _)) (sP (cJ (cI (Z H) (sP (cJ (L.Do (loc:=Y7.ZA f c1 c2 X t' i z.2) (z0:=(t',[],sD)) (λm z s'=>Rn G t' L' m z s s') ⟨H,⟨o,H_⟩,su G _,by refine ?_;exact tD [0,3] 0x28444088010048520c22 H ((gB.mp H_).1),λa h=>by cases h⟩ λm zz s' rC=>?_))))));obtain ⟨rfl,⟨o,GE⟩,hd,hl,Ù⟩:=rC;obtain ⟨sC,δ,z3⟩:=zz;have eg:Ev (pI qi (U 3) (U 6)) (Y7.ZA f c1 c2 X t' i z.2 (sC,δ,z3)) s' (WA o):=rE (Z H) (Z H) (d4 (O.Zu 1 H) I.nd (gz GE))
 by_cases h0:m=0
 .subst h0;have e:=gv (GE.symm.trans I.aT);have e1:sC=X:=sJ gS e;have e2:o=sD:=sJ j3 e;subst e1 e2;exact(tC Zt (rL eg rD (sg (y:=.none))) (λq=>(ft q)) (λø=>sP (cP (Z H) (k δ _ hd (by exact(uy [8,0,3,24] 0x1848121442084800800130c0628c04 H I.len hF.n (hl:R δ+3*0<=_))) Ù O.le))))
 ·(refine Ci (I.par m sC o GE h0) λj h tl o' e9 hj ü hoe=>?_;subst e9)
  refine(tC pH (rL eg rD (sf (y:=.none) nofun)) (λø Kb hK=>?_) (λq=>tf q));refine vS hoe λr α hr hle e Ix=>?_
  have ų:=hF.au r;rw[e,gK,iu]at ų;refine dK eg H (sP (cJ (cI (rE (Z H) (Z H) (BP (Wq [8,1,3,10000000] 0x309480090c2120422002010421281200800138c0730c05 H I.len hF.n ų hl))) (hK .next _ _ (vA (h,δ++tl,J (f2 (nL tl))) H j hj ⟨H,⟨o',ü⟩,?_,?_,λa ha=>?_⟩)))))
  .have h1:=sz hr;rw[hle,e]at h1;exact h1.trans ((DL.ŕ Ix).append (hd.append (su G tl)))
  .exact(D gK (Wq [1,3] 0x7088c11148000487089011100100420094090040830c24 H hj ų hl))
  .rcases gP.mp ha with ha | ha
   .exact Ù a ha
   .exact hF.bF hr (D e (gU _ (gH _ ha)))
theorem Ro(h:GX E g G x)(hF:G.ZU)(hf:FX E f d a g nu fm G F)(hX:X<R G.ZH)(hb:(F X).testBit t=pH)(k:∀δ s',DL G [X] (t::δ)->R δ<=24->(∀a∈δ,Sy G a)->Le E s'->K (f2 (nL δ)) s'):yL [Y f,f0 X,f0 t] E K:=by
 refine FG (cQ λc1 hc=>cG H ?_);have Ų:(ur E c1 (f8 [])) c1=J (f8 (dI gS (λq:M×sF (M×V M)=>WA q.2) [])):=te ..;refine dh (ti _ (Bj (X:=X) (y:=.none) Ų (gE _) (λh=>by cases h)) ?_);rw[NZ];have O:=(sX.init E).new (o:=f8 (Xs [(X,sD)])) hc;refine cJ (cQ (cV (cC (cG H (cH ⟨gQ H,λc2 wP=>sP ?_⟩)))));have O:=O.new (o:=f1 (nL [X])) wP
 refine cI rD (sP (L.Do (loc:=λz:M×Z5=>R7.ZA f c1 c2 X t z.1 z.2) (z0:=(0,sD,sD,sD,sD,sD)) (WC G F t X c1 c2 E) ⟨(tC ([(X,sD)]) O ⟨(⟨u5 _,H,λi v o hi h0=>(by
  cases i with
  | zero=>exact absurd rfl h0
  | succ i=>exact uH hi),λq hq=>D (gJ.mp hq) hX⟩ : Mu G X [(X,sD)]),λi v hi=>absurd hi (iF _)⟩ (gE _)),H⟩ λm z s W=>?_))
 obtain ⟨⟨Q,O,I,hle⟩,rfl⟩:=W;refine(tC _ (rO (rL (Z H) (Z H) (eT (O.Zu 1 H) I.ln.nd)) λø=>rQ (rL (Z H) (rJ (cE (Z H) cF) (sa (O.Zu 0 H))) rX)) (λq Kb hK=>?_) (λq=>TJ hF O I.ln ?_ k))
 .have q:=sQ ((jn ..).mp q).2;rw[sU,gy]at q;exact TH h hF hf O I (g8.mp q) hK
 .by_cases q1:t∈Q.map gS
  .exact q1
  .rw[sT q1]at q;have q:=sW q;rw[sU,gy]at q;exact fT hf.ok (λi p hi=>I.cl i p (ij (gB.mp hi).1 (jd (λh=>q (g8.mpr h)))) hi) (hf.ok.so X t hX hb) (gL.mpr (ti (X,sD) (gz I.ln.aT) H))
noncomputable def X6(G:Gm)(F:M->M)(t:M)(row q:V M):Prop:=∃α sC β δ,row=α++sC::β/\(∀a∈α,Gl G a/\(F a).testBit t=Zt)/\DL G [sC] (t::δ)/\q=δ++β/\R δ<=24/\∀a∈δ,Sy G a
theorem TK(m t:M):decide ((((m >>> t)&&&1:M):al)=0) = !m.testBit t:=by
 rw[<- HQ]
 rcases pq.mp (Nat.and_le_right (n:=m >>> t) (m:=1)) with e | e<;>refine D e ?_<;>rfl
theorem Pa.rests(hF:G.ZU)(h:Pa G S F t tr v0 σ gw):∀r∈gw,R r<=2/\∀a∈r,Sy G a:=by
 refine(h (λv0 ø gw=>G.Ok v0.2.1/\∀r∈gw,R r<=2/\∀a∈r,Sy G a) ⟨⟨hF.bx,gE _⟩,λr h=>uG h⟩ (λih hX ø=>⟨⟨ih.1.ao,(gB.mp hX).1⟩,ih.2⟩) λ{p r d f X r' σ gw} ih hX _ ZP hl=>⟨⟨ZP,gE _⟩,λr2 h2=>?_⟩).2
 rcases gX.mp h2 with rfl | h2
 .exact⟨D je (gA (Nat.sub_le_sub_left (jO (gE d)) _) (Nat.sub_le_sub_right (hF.au r) 1)),λa ha=>hF.bF ih.1.ao (mn ha)⟩
 .exact ih.2 r2 h2
theorem E1:∀{ρ:V (V M)},(∀r∈ρ,R r<=2)->R ρ.flatten<=2*R ρ
 | [],_=>gE _
 | r::ρ,h=>by
  refine D List.flatten_cons (D gK (D iu ?_));exact uy [2,1] 0x4260004520024300450800120403 H (h r gI) (E1 λr' ZP=>h r' (gH _ ZP))
noncomputable def YN.ZA(f Db g:sE)(it t:M)(z:V M×sF LV×sF LV):uZ:=[J (Y f),J (f0 it),J (Y Db),J (f0 t),J (Y g),J (f2 (nL z.1)),z.2.1,z.2.2]
theorem V4(h:GX E g G x)(hF:G.ZU)(hf:FX E f d a g nu fm G F)(hr:∀s∈w,s<R G.ZH)(hz:R w<=9000000)(hA:Xq G F t w)
  (k:∀q s',X6 G F t w q->Le E s'->K (f2 (nL q)) s'):Am (YN.ZA f c g X t (w,y6,y7)) E (tB K):=by
 refine w5 hA λα sC β e Ix hY=>?_
 have C?:w[R α]?=J sC:=by refine D e (D (il (gC _)) (D (iI _) ?_));rfl
 refine cJ (cI rD (sP (cJ (L.Do (loc:=λn:M=>YN.ZA f c g X t (w,y6,J (f0 n))) (z0:=0) (λm n s=>s=E/\m=R w - n/\n<=R α/\∀(i:M) a,i<n->w[i]?=J a->(F a).testBit t=Zt) (m0:=R w) ⟨H,H,gE _,λi a hi=>absurd hi (iF _)⟩ λm n s ZN=>D9 ZN λes hm hn hb=>?_))));obtain rfl:=es.symm;have Ĕ:=(gB.mp C?).1;refine xE (⟨_,gM (by exact uy [] 0x5204a53042620403 H hn Ĕ)⟩ : ∃b,w[n]?=J b) λb H1=>?_
 refine(tC (!(F b).testBit t) (by rw[<- TK];exact rL (rE (rE (rE (rH (Z H) (rT hf.ar H)) (rE (Z H) (Z H) (r8 (xk H1))) (r5 hf.bE (ux (hr b (gz H1))))) (Z H) sk) rD (si (n:=1))) rD rZ) (λq Kb hK=>?_) (λq=>sP ?_))
 .have q:(F b).testBit t=Zt:=by simpa using q
  refine cJ (cI (v:=f0 (n+1:M)) (rE (Z H) rD rU) (hK .next _ _ (xy (n+1) H (R w - (n+1)) (by exact Mq [1] 0x2902541cc008d0009c040044628464 H hm (gO (uy [1] 0x30024004862842520403 H hn Ĕ)) (gO (uy [1] 0xc5090c00940400442 H (gO (uy [1] 0x30024004862842520403 H hn Ĕ))))) H (uS H ?_ (λi a hi ha=>?_)))))
  .have:n≠R α:=λe2=>by rw[e2,C?]at H1;obtain rfl:=gv H1;exact tf (hY.symm.trans q)
   exact Za hn this
  .by_cases e2:i=n
   .obtain rfl:=e2.symm;refine tj (gv (H1.symm.trans ha)) ?_;exact q
   .exact hb i a (by exact Io hi e2) ha
 .have q:(F b).testBit t=pH:=by simpa using q
  refine cJ (cZ (dB (cT (Z (v:=Y f) H _ ⟨cK hf.ar,cC (rE (Z H) (Z H) (r8 (xk H1)) _ (cC (cG H (cH (Ro h hF hf (hr b (gz H1)) q λδ s' hd hl Ù hle=>?_)))))⟩))));refine eC (n:=n+1) (l:=w) (Z H) (rE (Z H) rD rU) (by exact uy [1] 0x28024004853042620403 H hn Ĕ) (by exact tY [9000000,10000000] 0x4240900120402 H hz) _ (BP (p:=δ) (q:=w.drop (n+1)) (by exact D je (Dp [9000000,24,1,10000000] 0xc25200243082701401104240800130404 H hz hl (gO (uy [1] 0x20025004843042628403 H hn Ĕ)))) _ (k _ s' (vN (w.take n) b (w.drop (n+1)) δ ?_ (λa ha=>?_) hd H ⟨hl,Ù⟩) hle))
  .have:=kR n w;rw[jk (gB.mp H1).1,(gB.mp H1).2]at this;exact this.symm
  .refine xE (ie ha) λi hi=>?_
   refine xA (G8 hi) λG! Ź=>⟨Ix a ?_,hb i a G! Ź⟩
   rw[e,hV (by exact uy [] 0x5204a62042530403 H hn G!)]at Ź;exact gz Ź
theorem Rp(h:GX E g G x)(hF:G.ZU)(hf:FX E f d a g nu fm G F)(hp:G.Ok p)(Ö:E c=J (f4 577 Cl [sv,Y ad]))(Z2:E ad=J (f1 (Bp gw)))(on:∀r∈gw,R r<=2/\∀a∈r,Sy G a)(hz:R gw<=2000000)(hA:Xq G F t ((G.Zv p.1).drop p.2++gw.flatten))
  (k:∀q s',X6 G F t ((G.Zv p.1).drop p.2++gw.flatten) q->Le E s'->K (f2 (nL q)) s'):wx [Y f,f0 (G.it p:M),Y c,f0 t] E K:=by
 refine vL (h.rule hp.ao) λra rd ZM ha ol=>FH (cI (v:=Y g) (rH (Z H) (rT hf.ar H)) (sP (cI (rJ (cE (eC (l:=G.Zv p.1) (n:=p.2) (rH (rE (rH (Z H) (rT h.hg H)) (rK (Z H) (cK h.hg) (cE (Z H) cF) (xY h hp)) (r5 h.Z2 (vl ha))) (rT ol H)) (rK (Z H) (cK h.hg) (cE (Z H) cF) (CQ h hp)) hp.au (tY [3,10000000] 0x4240900120402 H (hF.toSm.au p.1))) cF) fF) (sP (cJ (dq (loc:=YN.ZA f c g (G.it p) t) (z0:=((G.Zv p.1).drop p.2,sD,sD)) (l:=ad) (vs:=Bp gw) (λi z s=>s=E/\z.1=(G.Zv p.1).drop p.2++(gw.take i).flatten) (rH (Z H) (rT Ö H)) (λi z s e=>e.1▸Z2) ⟨H,by exact D List.take_zero (D List.flatten_nil (D (gY _) H))⟩ (λi v z s K' hv rC hK=>?_) λz s rC=>sP ?_))))))
 ·(refine xA rC λe9 P3=>?_;refine tj e9.symm ?_)
  obtain ⟨row,z2,z3⟩:=z;have P3:row=(G.Zv p.1).drop p.2++(gw.take i).flatten:=P3;unfold Bp at hv;rw[gG]at hv;refine vp v (gR.mp hv) λr hr=>?_
  have o!:=E1 (ρ:=gw.take i) λr hr=>(on r (jC hr)).1
  rw[iA]at o!;refine cI (rE (Z H) (Z H) (BP (p:=row) (q:=r) (D P3 (D gK (D je (gA (jE (jE (gA (kE _ _) (hF.toSm.au p.1)) (gA o! (kV 2 (gA (iT _ _) hz)))) ((on r (gz hr)).1)) (by decide))))))) (hK .next _ _ (tC (row++r,J (f2 (nL r)),z3) H rfl (?_:row++r=_)))
  (refine D P3 (D (tF hr) (D List.flatten_append ?_));rewrite[gW])
  simp only[List.flatten_cons,List.flatten_nil,gY]
 ·(refine xA rC λe9 P3=>?_;refine tj e9.symm ?_)
  obtain ⟨row,z2,z3⟩:=z;have P3:row=(G.Zv p.1).drop p.2++(gw.take (R (Bp gw))).flatten:=P3;rw[show(Bp gw).length=R gw from gy ..,ic]at P3;refine D P3 ?_;refine V4 h hF hf (λa ha=>?_) (D gK (D je (Dp [2000000,3,2,9000000] 0x184a40048720406108a1004270800130805 H hz (hF.toSm.au p.1) (E1 λr hr=>(on r hr).1) (kE _ _)))) hA k
  have Ù:Sy G a:=by
   rcases gP.mp ha with ha | ha
   .exact hF.bF hp.ao (mn ha)
   .exact s9 (List.mem_flatten.mp ha) λr hr har=>(on r hr).2 a har
  rcases Ù with rfl | ⟨_,h2,_⟩
  .exact tD [3,0] 0x102109485080a008403 H hF.Ý hF.toSm.aa
  .exact h2
noncomputable def Px(e:M):sF (V M)->M
 | none=>e
 | some T=>R T
noncomputable abbrev TL(G:Gm)(S:V SR)(F:M->M)(t e:M)(p:M×M)(mf:bn)(tr:sF (V M))(σ q:V M):Prop:=(∃fl gw,Pa G S F t tr (Px e tr,p,fl) σ gw/\(fl=1\/mf=Zt)/\X6 G F t ((G.Zv p.1).drop p.2++gw.flatten) q)/\R σ<=Nj S tr*40/\R q<=3280200
def TL.ex(h:TL G S F t i p mf tr σ w):=h.1
def TL.ls(h:TL G S F t i p mf tr σ w):=h.2.1
def gu(h:TL G S F t i p mf tr σ w):=h.2.2
theorem Ol(h:GX E g G x)(hF:G.ZU)(B:x4 G S)(hA:AX E a g da c G S)(hf:FX E f d a g nu fm G F)(hz:Nj S tr<=41001)(hp:G.Ok p)(hm:(mf=pH/\(G.Zv p.1)[p.2]?=sD)\/(mf=Zt/\(G.Zv p.1)[p.2]?=J t/\t<G.aa))
  (kn:(∀v σ gw,Pa G S F t tr v σ gw->¬ Mt (Px i tr) p mf v)->∀s',Le E s'->K .none s')
  (k:∀ex dx σ q s',TL G S F t i p mf tr σ q->sX E s' [(ex,f4 556 dx [f2 (nL σ),f0 t,f2 (nL q),f0 (G.it p:M)])]->K (Y ex) s'):wc [J (Y f),J (f0 i),J (f0 (G.it p:M)),J (f0 t),J (ii mf),J (VY tr),sD,sD] E (tB K):=by
 refine cI (v:=f0 (Px i tr:M)) ?_ (sP ?_)
 .cases tr with
  | none=>exact Ev.ś (rL (Z H) rD (sd (y:=.none))) (Z H)
  | some T=>exact Ev.Ŝ (rL (Z H) rD (se (y:=.none) nofun)) (by refine(?_:Ev _ _ _ (f0 (R T:M)));exact tj (sU T) (rJ (cE (Z H) cF) sb))
 refine cQ (cT (Z (v:=Y f) H _ ⟨cK hf.ar,cC (cG H (cC (cG H (cC (cG H (cC (cG H (cC (cG H (cH (V3 h hF B hA hf (gA hz (by decide)) hp (λPi s' hle=>sP ?_) λDb dp rl fl σ gw s' hP ĵ hlen hle Ö Z2=>sP ?_)))))))))))⟩))
 .exact cL (t:=pH) (rL (Z H) rD (sd (y:=.none))) (λø=>cJ (cP rD (kn Pi s' hle))) λq=>tf q
 .refine cL (t:=Zt) (rL (Z H) rD (se (y:=.none) nofun)) (λq=>ft q) λø=>sP (cZ (eG (cC (rH (v:=f2 (nL σ)) (Z H) (rT Ö H) _ (cC (cG H (cC (cT (Z (v:=Y f) H _ ⟨cK (hle _ _ hf.ar),cC (cG H (cC (cG H (cC (cG H (cH (Rp (h.Zz hle) hF (hf.Zz hle) hp Ö Z2 (hP.rests hF) (gA (mZ _ _) (Rg hlen hz H)) ?_ λq s2 hS Z7=>?_)))))))⟩)))))))))
  .rcases hm with ⟨h1,h2⟩ | ⟨h1,h2,h3⟩
   .refine D (lZ (jg.mp h2)) (D (mq _) ?_)
    rcases ĵ with rfl | ĵ
    .exact hP.fol.2 H
    .exact tf (h1.symm.trans ĵ)
   .refine D (jk ((gB.mp h2).1)) (D ((gB.mp h2).2) ?_);exact(Fb ([]) t _ H (λa ha=>uG ha) (D (hf.ok.tm t h3) mY))
  .refine cG H (cH λex dx hex hdx Z0=>GJ ?_);have O:=(sX.init s2).new (o:=f4 556 dx []) hex;refine cS O 0 H (Z H) (Z H) (gE _) λs O=>cS O 0 H (Z H) (Z H) (gC 1) λs O=>cS O 0 H (Z H) (Z H) (gC 2) λs O=>cS O 0 H (Z H) (Z H) (gC 3) λs O=>⟨H,?_⟩
   have hq:R q<=24+(3+2*R gw):=by
    (refine xw hS λα sC β δ e1 ø ø e2 r9=>xA r9 λh24 ø=>?_)
    have e1:=sJ jr e1;rw[gK,gK,je,iu]at e1;exact D e2 (D gK (YU [2,3,24,1] 0xc010420104052002442420184a0500e90046209020085010180238406 H (E1 λr hr=>((hP.rests hF) r hr).1) (hF.au p.1) h24 e1 (kE _ _)))
   exact k ex dx σ q s ⟨(tU fl gw hP ĵ hS),by exact uy [40] 0x14032048500cc400402 H hlen,tD [24,3,2,1640040,3280200] 0x10240906128805108210002020403 H hq (gA (mZ _ _) (Rg hlen hz H))⟩ ⟨(hle.trans Z7).trans O.le,O.nd,λq hq=>⟨(O.ZT q hq).1,(sX.init E).Zz (hle.trans Z7) |>.none (O.ZT q hq).2⟩⟩
theorem Py(h:GX s g G x)(hF:G.ZU)(B:x4 G S)(hA:AX s a g da c G S)(hf:FX s f d a g nu fm G F)(hz:Nj S tr<=41001)(hp:G.Ok p)(hm:(mf=pH/\(G.Zv p.1)[p.2]?=sD)\/(mf=Zt/\(G.Zv p.1)[p.2]?=J t/\t<G.aa))
  (kn:(∀v σ gw,Pa G S F t tr v σ gw->¬ Mt (Px i tr) p mf v)->∀s',Le s s'->K .none s')
  (k:∀ex dx σ q s',TL G S F t i p mf tr σ q->sX s s' [(ex,f4 556 dx [f2 (nL σ),f0 t,f2 (nL q),f0 (G.it p:M)])]->K (Y ex) s'):xS [Y f,f0 i,f0 (G.it p:M),f0 t,ii mf,VY tr] s K:=
 EG (Ol h hF B hA hf hz hp hm kn k)
theorem L9(h:GX s g G x)(hF:G.ZU)(B:x4 G S)(hA:AX s a g da c G S)(hf:FX s f d a g nu fm G F)(hz:Nj S sD<=41001)(hp:G.Ok p)(hm:(mf=pH/\(G.Zv p.1)[p.2]?=sD)\/(mf=Zt/\(G.Zv p.1)[p.2]?=J t/\t<G.aa))
  (kn:(∀v σ gw,Pa G S F t sD v σ gw->¬ Mt i p mf v)->∀s',Le s s'->K .none s')
  (k:∀ex dx σ q s',TL G S F t i p mf sD σ q->sX s s' [(ex,f4 556 dx [f2 (nL σ),f0 t,f2 (nL q),f0 (G.it p:M)])]->K (Y ex) s'):wL [Y f,f0 i,f0 (G.it p:M),f0 t,ii mf] s K:=
 Dj (Ol (tr:=sD) h hF B hA hf hz hp hm kn k)
theorem Om{α:Type}{xs:V α}{f h:α->LV}(P:α->bn)(on:hU t sD++ld.map (λi=>(ρ[i]?).join)=ρ0)(hx:∀i,nx i s=J (xs.map f)[i]?)(hz:R xs<=2 ^ 24 - 1)
  (step:∀(i:M) a x,xs[i]?=J a->EvB mc ((ρ0.set k x).set k (J (f a))) s (P a)/\Ev e ((ρ0.set k x).set k (J (f a))) s (h a)) (kk:∀c,s c=sD->KE (Y c) (ur s c (f1 ((xs.filter P).map h)))):HP t ld (qF k) mc e ρ KE nx s:=by
 unfold HP;refine D on (HO (N:=R xs) (λi=>(xs.map f)[i]?) (λi acc ρ s'=>s'=s/\acc=((xs.take i).filter P).map h/\∃x,ρ=ρ0.set k x) ⟨H,H,?_⟩ (λi=>by rw[jg,gy]) (λi a ρ s' hi h=>by rw[h.1];exact hx i) (λi v acc ρ s' hv ⟨e1,e2,x,e3⟩=>⟨_,H,λKy Kn hy hn=>?_⟩) λacc ρ s' ZN c hc=>zY ZN λe1 e2 ø=>?_)
 .by_cases hk:k<R ρ0
  .exact⟨ρ0[k],by exact D (mN _) H⟩
  .exact⟨sD,by exact D (oT (by exact tD [] 0x520484284a2 H hk)) H⟩
 .rw[gG]at hv
  (refine s9 (gR.mp hv) λa ha e9=>?_;refine tj e9 ?_)
  subst e1 e2 e3;obtain ⟨h1,h2⟩:=step i a x ha;have hf:(xs.take (i+1)).filter P=(xs.take i).filter P++if P a then [a] else []:=by exact D (tF ha) (D (jS _ _) (D List.filter_cons (D List.filter_nil H)))
  refine h1 _ (Wr (λq=>h2 _ (hy _ _ ⟨?_,H,?_,_,(by exact D (ki _) H)⟩)) λq=>hn _ ⟨H,?_,_,(by exact D (ki _) H)⟩)
  .refine D (gy _) ?_;have:=jb P (xs.take i);rw[iA]at this;exact gA this (gA (iT _ _) hz)
  .exact D hf (D (sI q) (D gF H))
  .exact D hf (D (sH (by refine D q ?_;decide)) (D (gY _) H))
 .subst e1 e2;exact D ic (kk c hc)
theorem F8{α:Type}{xs:V α}{f h:α->LV}(P:α->bn)(on:hU t sD++ld.map (λi=>(ρ[i]?).join)=ρ0)(he:Ev e ρ s (Y g))(hl:s g=J (f1 (xs.map f)))(hz:R xs<=2 ^ 24 - 1)
  (step:∀(i:M) a x,xs[i]?=J a->EvB mc ((ρ0.set k x).set k (J (f a))) s (P a)/\Ev mo ((ρ0.set k x).set k (J (f a))) s (h a)) (kk:∀c,s c=sD->KE (Y c) (ur s c (f1 ((xs.filter P).map h)))):rg (qJ e) t ld (qF k) mc mo ρ s KE:=
 dJ (cX (he _ (Gk hl (Om P on (λi=>by unfold qD;exact D hl H) hz step kk))))
theorem Kl{α:Type}{xs:V α}{f h:α->LV}(P:α->bn)(on:hU t sD++ld.map (λi=>(ρ[i]?).join)=ρ0)(he:Ev e ρ s (f2 (xs.map f)))(hz:R xs<=2 ^ 24 - 1)
  (step:∀(i:M) a x,xs[i]?=J a->EvB mc ((ρ0.set k x).set k (J (f a))) s (P a)/\Ev mo ((ρ0.set k x).set k (J (f a))) s (h a)) (kk:∀c,s c=sD->KE (Y c) (ur s c (f1 ((xs.filter P).map h)))):rg (qJ e) t ld (qF k) mc mo ρ s KE:=
 dJ (cX (he _ (UQ (Om P on (λi=>rfl) hz step kk))))
theorem L.k?(O:sX E s pre)(i:M)(e1:pre[i]?=J (c,f1 vs))(he:Ev e ρ s (Y c))(k:∀s',sX E s' pre->KB (!b8 (vs=[])) s'):pX (qk pH) e (pM pK) ρ s KB:=by
 refine he _ ⟨gE _,λc' ul=>?_⟩;unfold qk;simp only[tR (Ur (O.Zu i e1) ul:c≠c'),te,(O.Zu i e1)];refine⟨?_,?_⟩
 .cases vs with
  | nil=>exact .inr ⟨H,H⟩
  | cons v vs=>exact .inl (by simp)
 .exact D (n4 _) (k _ (O.Zz (Le.new ul)))
theorem L.R_(he:Ev e ρ s (Y c))(hl:s c=J (f1 vs))(hz:R vs<=th)(k:∀c',s c'=sD->K (Y c') (ur s c' (f1 (vs.drop 1)))):qj e (pG (f0 1)) (pG .none) ρ s K:=by
 refine he _ (?_:L.ŋ (Y c) (f0 1) .none s K);refine(tq vs _ _ (.inl hl) H rfl hz (λc' ul=>?_))
 have e:(vs.drop (min 1 (R vs))).take (R vs - min 1 (R vs))=vs.drop 1:=by
  cases vs with
  | nil=>rfl
  | cons v vs=>exact D iu (D (iO (by exact tY [1] 0x900008481 H)) (D (jT (by exact D je (D iu (gC _)))) H))
 have k:=k c' ul;rw[<- e]at k;exact k
namespace Op
theorem Β(hn:i≠0)(hl:i.log2<9000):Op (L.fdiv (f0 m) (f0 i)) s (f0 (m / i:M)):=λK k=>(uS (λe=>hn (iQ e)) (D (Int.natAbs_natCast _) hl) (by
 exact D (oU _ (ig i)) k))
theorem n!{n:M}(hn:n≠0):Op (p8 (f0 m) (f0 n)) s (f0 (m % n:M)):=λK k=>⟨λe=>hn (iQ e),by
 exact D (pw _ (ig n)) k⟩
theorem Ĥ(h:s l=J (f1 vs))(hz:R vs<=th):Op (qP [Y l]) s (f2 vs):=λK k=>L.Ĥ h hz k
end Op
structure Cf where
 st:M
 aF:M
 aU:bn
 rs:V M
 ch:al
variable {q:Cf}
noncomputable def IJ(sr:bn):ap:=if sr then "shift/reduce" else "reduce/reduce"
noncomputable def Cf.aR(q:Cf):V LV:=[f0 q.st,f0 q.aF,g3 (IJ q.aU),f2 (nL q.rs),f0 q.ch]
noncomputable def Cf.aM(q:Cf)(d:sE):LO:=f4 746 d q.aR
noncomputable abbrev CL:=V (sE×sE×Cf)
variable {iv qs:CL}
noncomputable def U2(cl:CL):V (sE×LO):=cl.map λq=>(q.1,q.2.2.aM q.2.1)
noncomputable def wh(cl:CL):V LV:=cl.map λq=>Y q.1
noncomputable def Oo(pre:V (sE×LO))(c:sE)(cl:CL):V (sE×LO):=pre++(c,f1 (wh cl))::U2 cl
theorem GR(O:sX E s ((a,f4 746 d [])::pre))(k:∀s',sX E s' ((a,f4 746 d [b,v,ZM,sy,sv])::pre)->KE .none s'):ve [Y a,b,v,ZM,sy,sv] s KE:=
 Fy (cS O 0 H (Z H) (Z H) (gE _) λs O=>cS O 0 H (Z H) (Z H) (gC 1) λs O=>cS O 0 H (Z H) (Z H) (gC 2) λs O=>cS O 0 H (Z H) (Z H) (gC 3) λs O=>cS O 0 H (Z H) (Z H) (gC 4) λs O=>k s O)
theorem Nk:(Oo pre c qs)[R pre]?=J (c,f1 (wh qs)):=by unfold Oo;refine D (il (gC _)) (D (iI _) ?_);rfl
theorem V5(O:sX E s (Oo pre c qs))(hv:ρ[1]?=J (J (Y c)))(hz:R qs<=10000000)(q:Cf)(he:NX es ρ s q.aR)(k:∀a d s',sX E s' (Oo pre c (qs++[(a,d,q)]))->bb ρ s' Kb) :
  qo (qr (qV qT qW (U 1) (pL (L.new 746 ve es) pK))) bb ρ s Kb:=by
 refine dD (dA (Z (v:=Y c) hv _ ⟨dk (O.Zu _ Nk),cC (dS O he λx d s O=>GR O λs O=>⟨H,cH ?_⟩)⟩));have hp:(Oo pre c qs++[(x,q.aM d)])[R pre]?=J (c,f1 (wh qs)):=by refine D (hV (gB.mp Nk).1) ?_;exact Nk
 refine dP ((O.perm (km _ _).symm).Zu _ hp) (by unfold wh;exact D (gy _) (tY [10000000,16777215] 0x4240900120402 H hz)) (k x d _ (jD ?_ ((O.perm (km _ _).symm).set _ hp (f1 (wh qs++[Y x])))))
 congr 1
 unfold Oo wh U2
 (rewrite[gW];refine D (kj _ _ (gC _)) (D (iI _) (D gF (D gF ?_))))
 rfl
open Classical in
noncomputable def Rq(be:V ((M×M)×M))(k:M×M):M:=if h:∃m,(k,m)∈be then Classical.choose h else 0
theorem Oq(h:p∈be.map (·.1)):(p,Rq be p)∈be:=by
 obtain ⟨⟨k',m⟩,h1,h2⟩:=gL.mp h;subst (h2:k'=p);unfold Rq;exact D (dif_pos (⟨m,h1⟩ : ∃m,(k',m)∈be)) (Classical.choose_spec (⟨m,h1⟩ : ∃m,(k',m)∈be))
noncomputable abbrev zW(G:Gm)(S:V SR)(be:V ((M×M)×M))(q:Cf):Prop:=(∃r,S[q.st]?=J r/\(∀k∈q.rs,k∈r.rs/\((q.st,k),Rq be (q.st,k))∈be/\(Rq be (q.st,k)).testBit q.aF=pH)/\(q.aU=pH->q.aF∈r.xs))/\q.aF<G.aa/\q.rs.Nodup/\(q.aU=Zt->R q.rs=2)
def zW.ao(h:zW G S be q):=h.1
def zW.aF(h:zW G S be q):=h.2.1
def zW.nd(h:zW G S be q):=h.2.2.1
def zW.two(h:zW G S be q):=h.2.2.2
theorem gj{α:Type}{key:α->M}{val:α->LV}{xs:V α}(hl:s l=J (f8 (dI key val xs)))(hn:(xs.map key).Nodup):Op (ql Zt (f0 (X:M)) (Y l)) s (ii (b8 (X∈xs.map key))):=λK k=>by
 unfold ql;simp only[hl];exact⟨BS,by exact D (QO hn) (D (lK _) k)⟩
noncomputable def TM.ZA(v c:sE)(tc:M)(z:sF LV×sF LV×sF LV×sF LV):uZ:=[J (Y v),J (Y c),J (f0 tc),z.1,z.2.1,z.2.2.1,z.2.2.2]
noncomputable abbrev Nl(G:Gm)(S:V SR)(be:V ((M×M)×M))(st:LH)(pre:V (sE×LO))(c:sE)(N:M)(s:LH):Prop:=∃cl,sX st s (Oo pre c cl)/\(∀q∈cl,zW G S be q.2.2)/\R cl<=N
noncomputable def Nl.ex(h:Nl G S be E pre c N s):=h
theorem Nl.add(rC:Nl G S be E pre c N s)(hN:N<=1000000)(hv:ρ[1]?=J (J (Y c)))(q:Cf)(hq:zW G S be q)(he:NX es ρ s q.aR)(k:∀s',Nl G S be E pre c (N+1) s'->bb ρ s' Kb) :
  qo (qr (qV qT qW (U 1) (pL (L.new 746 ve es) pK))) bb ρ s Kb:=by
 refine tW rC λcl O h1 h2=>?_
 refine V5 O hv (tD [1000000,10000000] 0x424090a40800128403 H hN h2) q he λa d s' O=>k s' ⟨_,O,λq' At=>?_,by exact D gK (jO h2)⟩
 rcases gP.mp At with h | h
 .exact h1 q' h
 .exact D (gJ.mp h) hq
theorem Rr(hX:VX E ad d g a da Cl f fm G S be)(ht:t<G.aa)(hr:S[i]?=J r')(hR:ts.Nodup/\R ts<=20/\∀k∈ts,k∈r'.rs/\((i,k),Rq be (i,k))∈be/\(Rq be (i,k)).testBit t=pH)(hN:N<=500000)(rC:Nl G S be E [(nu,f1 (nL ts))] c N s)
  (hK:∀y3 y4 s',Nl G S be E [] c (N+20) s'->Kb .next (TM.ZA ad c G.aa (J (Y r'.ae),J (f0 t),y3,y4)) s'):v9 (TM.ZA ad c G.aa (J (Y r'.ae),J (f0 t),J (Y nu),y4)) s Kb:=by
 refine tW rC λcl O h1 h2=>?_
 refine dE (cX (L.R_ (Z H) (O.Zu 0 H) (by exact D (sU _) (D sS (tY [20,16777216] 0x4240900120402 H hR.2.1))) λc6 No=>?_));have O:=O.new (o:=f1 ((nL ts).drop 1)) No;generalize ur s c6 (f1 ((nL ts).drop 1))=s at O;rw[show(nL ts).drop 1=nL (ts.drop 1) by unfold nL;exact D mX H]at O;refine yR (loc:=λy4=>TM.ZA ad c G.aa (J (Y r'.ae),J (f0 t),J (Y nu),y4)) (z0:=y4) (vs:=nL (ts.drop 1)) (l:=c6) (λj ø s=>Nl G S be E [(c6,f1 (nL (ts.drop 1))),(nu,f1 (nL ts))] c (N+j) s) (λj z s rC=>rC.ex.elim λcl h=>h.1.Zu 0 H) ⟨cl,O,h1,h2⟩ (λj w z s K1 hw rC ZW=>?_) λz s rC=>hK _ _ s ?_
 .refine Bt w (wa hw) λk2 Os=>?_
  rw[lB]at Os;have IR:=(gB.mp Os).1;have up:ts[0]?=J ts[0]:=gM (by exact tD [1,0] 0x4084252140100422 H IR);generalize ts[0]=k1 at up;refine tW rC λcl O h1 h2=>?_
  have e1:Ev (pI qi (U 5) (pG (f0 0))) ((TM.ZA ad c G.aa (J (Y r'.ae),J (f0 t),J (Y nu),z)).set 6 (J (f0 k2))) s (f0 (k1:M)):=rE (Z H) rD (r5 (n:=0) (O.Zu 1 H) (xk up));refine Nl.add (N:=N+j) ⟨cl,O,h1,h2⟩ (by exact uy [20,500000,1,1000000] 0x309480090c510401084240800130404 H hR.2.1 hN IR) H ⟨i,t,Zt,[k1,k2],0 - (k1:al)⟩ ⟨(tC r' hr (λk hk=>?_) (λq=>by exact ft q)),ht,?_,λø=>rfl⟩ (cE (rH (Z H) (rT (((hX.Zz O.le).ax.ay i r' hr).1) H)) (cE (Z H) (cE rD (cE (cW e1 (Z H)) (cE (rE rD e1 rV) cF))))) λs rC=>ZW .next _ _ (ti (J (f0 k2)) H rC)
  .rcases gX.mp hk with rfl | hk
   .exact hR.2.2 _ (gz up)
   .exact D (gJ.mp hk) (hR.2.2 _ (gz Os))
  .refine iK.mpr ⟨λh=>?_,u5 _⟩;have:=(jq (gB.mp up).1 hR.1).mp (up.trans ((gJ.mp h)▸Os.symm));exact(PO [0,1] 0x40840008461 H this).elim
 .refine tW rC λcl O h1 h2=>?_
  rw[sU,je]at h2;exact⟨cl,O.tail.tail,h1,by exact Dp [20] 0x250102431c20394040800130404 H hR.2.1 h2 (kE _ _)⟩
theorem TN(m t:M):decide (((m / 2 ^ t % 2:M):al)=(1:M))=m.testBit t:=
 D Nat.testBit_eq_decide_div_mod_eq (t6.mpr Int.ofNat_inj)
theorem TO(hF:G.ZU)(B:x4 G S)(hM:F7 G S be)(hX:VX E l d g a da nu ad Cl G S be)(ht:t<G.aa)(hr:S[i]?=J r')(hN:N<=400000)(rC:Nl G S be E [] c N s)
  (hK:∀y12 y4 s',Nl G S be E [] c (N+21) s'->K' .next (TM.ZA l c G.aa (J (Y r'.ae),J (f0 t),y12,y4)) s'):yX (TM.ZA l c G.aa (J (Y r'.ae),J (f0 t),y12,y4)) s K':=by
 refine tW rC λcl O h1 h2=>?_
 have am:=(B.exp hr).1;refine D9 ((hX.Zz O.le).ax.ay i r' hr) λpc ø ſ Č=>?_
 have ST:t<8:=ij ht (gA hF.aa hF.n);refine cQ (F8 (xs:=r'.rs) (f:=λk=>f0 (k:M)) (h:=λk=>f0 (k:M)) (λk=>(Rq be (i,k)).testBit t) H (rH (Z H) (rT pc H)) Č (gA am.aX.1 (by decide)) (λj k y hk=>⟨?_,Z H⟩) λc5 ů=>sP ?_)
 .rw[<- TN];exact rL (rE (rE (rE (rH (Z H) (rT (hX.Zz O.le).ar H)) (cW (rH (Z H) (rT pc H)) (Z H)) (dO (hX.Zz O.le).mm (Q6 hM.nd) (Oq ((hM.keys i k).mpr (ti r' hr (gz hk)))))) (rE rD (Z H) (sq (by exact tY [8,1000000] 0x4240900120422 H ST))) (Op.Β (Nat.pos_iff_ne_zero.mp (mO t)) (by exact D Nat.log2_two_pow (tY [8,9000] 0x4240940120422 H ST)))) rD (Op.n! (n:=2) (by decide))) rD rZ
 .have O:=O.new (o:=f1 (nL (r'.rs.filter λk=>(Rq be (i,k)).testBit t))) ů;generalize hR0:(r'.rs.filter λk=>(Rq be (i,k)).testBit t)=bi at O
  have hR:bi.Nodup/\R bi<=20/\∀k∈bi,k∈r'.rs/\((i,k),Rq be (i,k))∈be/\(Rq be (i,k)).testBit t=pH:=by
   refine tj hR0 ?_;exact(uS (am.aX.2.filter _) (gA (jb ..) am.aX.1) (λk hk=>(xA (iH.mp hk) λh3 h4=>(uS h3 (Oq ((hM.keys i k).mpr (ti r' hr h3))) h4))))
  have fin:∀s N',N'<=N+1->Nl G S be E [(c5,f1 (nL bi))] c N' s->v9 (TM.ZA l c G.aa (J (Y r'.ae),J (f0 t),J (Y c5),y4)) s K':=λs N' B! rC=>Rr hX ht hr hR (by exact tD [400000,1,500000] 0x4120481094040800128403 H hN B!) rC λy12 y4 s rC=>hK y12 y4 s (rC.ex.elim λcl h=>⟨cl,h.1,h.2.1,by have:=h.2.2;exact uy [1,20,21] 0x41280812042601020004a030403 H B! h.2.2⟩)
  refine dG (gf (L.k? O 0 H (Z H) λs O=>(D9 ((hX.Zz O.le).ax.ay i r' hr) λpc ø ſ Č=>?_)))
  by_cases q:bi=[]
  .exact D q (D (show decide (nL []=[])=pH from H) (Cb (Cb (fin s N (by exact tY [1] 0x48020481 H) ⟨cl,O,h1,h2⟩))))
  .refine D (sT (λe=>q (by unfold nL at e;exact lj.mp e):nL bi≠[])) (PF (rQ (rL (Z H) (rH (Z H) (rT pc H)) (gj (key:=id) ſ (by exact D (jL _) am.nd))) _ (Wr (λhx=>?_) λø=>fin s N (by exact tY [1] 0x48020481 H) ⟨cl,O,h1,h2⟩)));have hx:t∈r'.xs:=by have:=sQ hx;rwa [jL]at this
   refine Nl.add ⟨cl,O,h1,h2⟩ (by exact tY [400000,1000000] 0x4240900120402 H hN) H ⟨i,t,pH,bi,r'.aQ t⟩ ⟨(tC r' hr hR.2.2 (λø=>hx)),ht,hR.1,λq=>by exact tf q⟩ (cE (rH (Z H) (rT pc H)) (cE (Z H) (cE rD (cE (rJ (cE (Z H) cF) (Op.Ĥ (O.Zu 0 H) (by exact D (sU _) (D sS (gA hR.2.1 (by decide)))))) (cE (rE (rH (Z H) (rT pc H)) (Z H) (d4 (key:=id) (q:=t) ſ (by exact D (jL _) am.nd) hx)) cF))))) λs rC=>fin s (N+1) (gC _) rC
theorem Ig(h:GX E g G x)(hF:G.ZU)(B:x4 G S)(hM:F7 G S be)(hX:VX E nu d g a da ad Cl f G S be)(k:∀c cl s',sX E s' (Oo [] c cl)->(∀q∈cl,zW G S be q.2.2)->R cl<=200000->KE (Y c) s'):zG [Y nu] E KE:=by
 refine GF (dC (sX.init E) λc s O=>?_);have B_:=B.len hF.toSm;have ST:G.aa<=8:=gA hF.aa hF.n;refine cI (rH (rH (Z H) (rT (hX.Zz O.le).ar H)) (rT ((h.Zz O.le).hg) H)) (sP (cJ (dq (loc:=TM.ZA nu c G.aa) (z0:=(sD,sD,sD,sD)) (l:=ad) (vs:=S.map λr=>Y r.ae) (λi ø s=>Nl G S be E [] c (168*i) s) (rH (rH (Z H) (rT (hX.Zz O.le).ar H)) (rT (hX.Zz O.le).ax.ar H)) (λi z s rC=>rC.ex.elim λcl h=>h.1.le _ _ hX.ax.aB) ⟨[],O,λq hq=>uG hq,gE _⟩ (λi w z s K' hw rC hK=>?_) λz s rC=>sP ?_)))
 .rw[gG]at hw;refine vp w (gR.mp hw) λr hr=>?_
  have Ă:=(gB.mp hr).1;refine dH (loc:=λz:sF LV×sF LV×sF LV=>TM.ZA nu c G.aa (J (Y r.ae),z)) (z0:=z.2) (n:=G.aa) (λt ø s=>Nl G S be E [] c (168*i+21*t) s) (Z H) (tY [8,1099511627776] 0x4240900120402 H ST) rC (λt z s K1 ht rC ZW=>TO hF B hM hX ht hr (gA (jE (kV 168 (iG (ij Ă B_))) (kV 21 (iG (ij ht ST)))) (gQ H)) rC λy3 y4 s rC=>ZW .next _ _ (ti (J (f0 t),y3,y4) H rC)) λz s rC=>sP (hK .next _ _ (ti (J (Y r.ae),z) H (rC.ex.elim λcl h=>⟨cl,h.1,h.2.1,by have:=h.2.2;exact uy [8,168,21,1] 0x3094011102430845088040800135403 H ST h.2.2⟩)))
 .refine tW rC λcl O h1 h2=>?_
  rw[gy]at h2;exact cP (Z H) (k c cl s O h1 (gA h2 (gA (kV 168 B_) (gQ H))))
theorem ei(O:sX E s pre)(i j:M)(e1:pre[i]?=J (a,f1 vs))(e2:pre[j]?=J (g,f1 ys))(hz:R vs+R ys<=th)(k:∀c s',sX E s' ((c,f1 (vs++ys))::pre)->K (Y c) s'):pZ (Y a) (Y g) s K:=
 (tq _ _ _ H (O.Zu i e1) (O.Zu j e2) hz (λc hc=>k c _ (O.new hc)))
theorem gn:Op (qk Zt (g3 (IJ sr)) (g3 "shift/reduce")) s (ii sr):=λK k=>by
 cases sr with
 | true=>exact(uS (by decide +kernel) (by decide +kernel) (D (sM (show g3 (IJ pH)=g3 "shift/reduce" from H)) k))
 | false=>exact(uS (by decide +kernel) (by decide +kernel) (D (sT (show g3 (IJ Zt)≠g3 "shift/reduce" from λh=>absurd (LV.str.inj h) (by decide))) k))
theorem Km:G.M2 p=(t:M)<->(G.Zv p.1)[p.2]?=J t:=by
 cases h:(G.Zv p.1)[p.2]? with
 | none=>exact D (CV h) ⟨λe=>by lia,λe=>uH e⟩
 | some X=>exact D (CU h) ⟨λe=>sJ J (iQ e),λe=>sJ _ (gv e)⟩
noncomputable def F9(G:Gm)(rs:V M):V (M×M):=rs.map λk=>(k,R (G.Zv k))
noncomputable abbrev R8(G:Gm)(S:V SR)(q:Cf)(am:V (M×M)):Prop:=(q.aU=Zt->am=[])/\(q.aU=pH->∃p r,am=[p]/\S[q.st]?=J r/\p∈r.aJ/\(G.Zv p.1)[p.2]?=J q.aF)
def R8.bq(h:R8 G S q I):=h.1
def R8.aU(h:R8 G S q I):=h.2
theorem GS(h:GX s g G x)(hX:VX s c d g a da l nu ad G S be)(hk:k<R G.ZF):Op (yH [Y c,f0 k]) s (f0 (G.it (k,R (G.Zv k)):M)):=λKE kk=>by
 refine vL (h.rule hk) λra rd ZM ha ol=>FC (cP (rK (rH (Z H) (rT hX.ar H)) (cK h.hg) (cE (Z H) (cE (v:=f0 (R (G.Zv k):M)) ?_ cF)) (Bi h hk)) kk)
 exact tj (sU (G.Zv k)) (rJ (cE (rH (rE (rH (rH (Z H) (rT hX.ar H)) (rT h.hg H)) (Z H) (r5 h.Z2 (vl ha))) (rT ol H)) cF) sb)
theorem Nn(hF:G.ZU)(B:x4 G S)(hX:VX E l d g a da nu ad Cl G S be)(hr:S[i]?=J r')(k:∀I:V (M×M),(∀p,p∈I<->p∈r'.aJ)->RL E K (nL (I.map G.it))):yJ [Y l,f0 i] E K:=by
 have am:=(B.exp hr).1;refine zY (hX.ax.ay i r' hr) λpc ķ ø=>?_
 have s_:=(B.ww r' (gz hr)).1
 have p?:R r'.aG<=20:=by
  have h2:=tP (m:=gN G.count) (((B.ww r' (gz hr)).2).imp λh=>jh h) λx hx=>by
   exact vp x (gL.mp hx) λp hp=>iM.mpr (s_ p hp).lt
  unfold uv at h2;rw[gy,iq]at h2;exact gA h2 hF.cnt
 have Ř:=vQ hF.toSm am.o0.nd am.o0.ok;have Tl:(S.map λr'=>f2 (nL (uv G r')))[i]?=J (f2 (nL (uv G r'))):=by refine D (gG) (D hr ?_);rfl
 have hss:(S.map λr'=>Y r'.ae)[i]?=J (Y r'.ae):=by refine D (gG) (D hr ?_);rfl
 refine FE (cQ (dU (cC (rE (rH (Z H) (rT hX.ar H)) (Z H) (r5 hX.cs Tl) _ (cH (fJ (by unfold uv;exact D (sU _) (D (gy _) (D sS (tY [20,16777216] 0x4240900120402 H p?)))) λc1 M'=>sP ?_))))));have O:=(sX.init E).new (o:=f1 (nL (uv G r'))) M';generalize ur E c1 (f1 (nL (uv G r')))=s at O;have ı:=hX.Zz O.le;refine zY (ı.ax.ay i r' hr) λpc ķ ø=>?_
 have ķ:s r'.ia=J (f1 (r'.aJ.map λp=>f0 (G.it p:M))):=by refine D ķ ?_;unfold nL;exact D iS H
 refine cZ (dB (cG H (dU (cC (F8 (xs:=r'.aJ) (f:=λp=>f0 (G.it p:M)) (h:=λp=>f0 (G.it p:M)) (λp=>!b8 (G.it p∈uv G r')) H (rH (rE (rH (rH (Z H) (rT ı.ar H)) (rT ı.ax.ar H)) (Z H) (r5 ı.ax.aB hss)) (rT pc H)) ķ (gA Ř (by decide)) (λj p y hp=>⟨rL (Z H) (Z H) (eD (O.Zu 0 H)),Z H⟩) λc2 wP=>?_)))));generalize ũ:(r'.aJ.filter λp=>!b8 (G.it p∈uv G r'))=J2;have e2:(J2.map λp=>f0 (G.it p:M))=nL (J2.map G.it):=by unfold nL;exact D iS H
 refine D e2 ?_;have O:=O.new (o:=f1 (nL (J2.map G.it))) wP;refine cH (yq (ns:=J2.map G.it) ?_ (D (gy _) (tY [20,64] 0x4240940120402 H (tj ũ (gA (jb ..) Ř):R J2<=20))) (RL.ZC O λc3 s O=>?_))
 .exact .inl (.inr (ti _ H (O.Zu 0 H)))
 refine ei O 2 0 H rfl (by unfold uv;exact D (sU _) (D (sU _) (D (D ((tE _).length_eq) (D (gy _) H):R (um (J2.map G.it))=R J2) (D (gy _) (D sS (tD [20,16777216] 0x2129001200250800120403 H p? (tj ũ (gA (jb ..) Ř):R J2<=20))))))) λc s O=>s9 (BQ (f:=G.it) (tE (J2.map G.it))) λJ3 hJ3 e3=>k (r'.aG++J3) (λp=>?_) c s O.le (O.fr 0 H) (by (refine D gF (D e3 ?_);rewrite[<- yd]);exact O.Zu 0 H)
 refine AU gP (AU hJ3.mem_iff (tj ũ (AU iH ⟨λh=>h.elim ((λp hp=>(am.o0.iff p).mpr (.inl hp):∀p∈r'.aG,p∈r'.aJ) p) mK,λh=>?_⟩)))
 by_cases hk:G.it p∈uv G r'
 .exact s9 (gL.mp hk) λp' sn e=>.inl (dN (s_ p' sn) (am.o0.ok p h) e▸sn)
 .exact .inr ⟨h,by exact D (sT hk) H⟩
theorem Ga(h:GX E g G x)(hF:G.ZU)(B:x4 G S)(hX:VX E nu d g a da ad Cl fm G S be)(hq:E c8=J (q.aM cr))(ZQ:zW G S be q)(k:∀am,R8 G S q am->RL E K (nL ((F9 G q.rs++am).map G.it))):xR [Y nu,Y c8] E K:=by
 refine tW ZQ.ao λr hr pc pu=>?_
 have am:=(B.exp hr).1;have p_:R q.rs<=20:=gA (tP ZQ.nd λk hk=>(pc k hk).1) am.aX.1;refine EC (cQ (Rd (vs:=nL q.rs) H (rH (Z H) (rT hq H)) (D (sU _) (tY [20,16777215] 0x4240900120402 H p_)) (λj=>f0 (G.it (q.rs.getD j 0,R (G.Zv (q.rs.getD j 0))):M)) (λj w y hw=>?_) λc hc=>sP ?_))
 .refine Bt w (wa hw) λk' Tm=>D (show q.rs.getD j 0=k' by refine D (iJ) (D Tm ?_);rfl) ?_
  exact rK (Z H) (cK hX.ar) (cE (Z H) cF) (GS h hX ((λk hk=>(am.o0.ok _ ((am.rs k).mp (pc k hk).1).2).ao:∀k∈q.rs,k<R G.ZF) k' (gz Tm)))
 have e1:rM (R (nL q.rs)) (λj=>f0 (G.it (q.rs.getD j 0,R (G.Zv (q.rs.getD j 0))):M))=nL ((F9 G q.rs).map G.it):=by
  refine D (sU _) (D (Nh (f:=λk=>f0 (G.it (k,R (G.Zv k)):M)) λj k' Tm=>by exact D (show q.rs.getD j 0=k' by refine D (iJ) (D Tm ?_);rfl) H) ?_);unfold F9 nL;exact D iS (D iS H)
 refine D e1 ?_;have O:=(sX.init E).new (o:=f1 (nL ((F9 G q.rs).map G.it))) hc;generalize ur E c (f1 (nL ((F9 G q.rs).map G.it)))=s at O;refine cL (rL (rH (Z H) (rT (O.le _ _ hq) H)) rD gn) (λe=>?_) λe=>sP ?_
 .refine dE (cX (cT (Z (v:=Y nu) H _ ⟨cK (hX.Zz O.le).ar,cC (rH (v:=f0 q.st) (Z H) (rT (O.le _ _ hq) H) _ (cH (Nn hF B (hX.Zz O.le) hr λI hI=>RL.ZC O λc2 s O=>?_)))⟩)));refine yR (loc:=λy3=>[J (Y nu),J (Y c8),J (Y c),y3]) (z0:=sD) (vs:=nL (I.map G.it)) (l:=c2) (λi ø s=>sX E s [(c2,f1 (nL (I.map G.it))),(c,f1 (nL ((F9 G q.rs).map G.it)))]/\∀(j:M) p,j<i->I[j]?=J p->(G.Zv p.1)[p.2]?≠J q.aF) (λi z s rC=>rC.1.Zu 0 H) ⟨O,λj p hj=>absurd hj (iF _)⟩ (λi w z s K1 hw rC ZW=>?_) λz s rC=>?_
  .refine Bt w (LN hw) λp hp=>xA rC λO hn=>?_
   have wS:=(hI p).mp (gz hp);refine cL (rL (rK (rH (Z H) (rT (hX.Zz O.le).ar H)) (cK (h.Zz O.le).hg) (cE (Z H) cF) (C7 (h.Zz O.le) (am.o0.ok p wS))) (rH (v:=f0 q.aF) (Z H) (rT (O.le _ _ hq) H)) rZ) (λht=>?_) λht=>sP (ZW .next _ _ (tC (J (f0 (G.it p:M))) H O (λj p' hj sn=>?_)))
   .have ht:=Km.mp (sQ ht);refine cZ (dB (cG H (cV (cC (cG H (cH ⟨gQ H,λc3 Ñ=>?_⟩))))));have O:=O.new (o:=f1 [f0 (G.it p:M)]) Ñ;refine ei O 2 0 H rfl (by unfold F9;refine D (sU _) (D (gy _) (D (gy _) (D sS (?_:R q.rs+1<=_))));exact tY [20,1,16777216] 0x41084800900120402 H p_) λc4 s O=>?_
    exact ZW (.ret _) _ _ (k [p] ⟨λe'=>(tf (e.symm.trans e')),λø=>(uY p r H hr wS ht)⟩ c4 s O.le (O.fr 0 H) (by (refine D gF ?_;rewrite[<- yd]);exact O.Zu 0 H))
   .by_cases e2:j=i
    .obtain rfl:=e2.symm;refine tj (gv (hp.symm.trans sn)) ?_;exact λh=>sW ht (Km.mpr h)
    .exact hn j p' (Io hj e2) sn
  .refine s9 (((B.exp hr).2 q.aF).mp (pu e)) λp wS ht=>xE (ie ((hI p).mpr wS)) λj hj=>?_
   exact absurd ht (rC.2 j p (D (sU _) (D (gy _) ((gB.mp hj).1))) hj)
 .exact cP (Z H) (k [] ⟨λø=>rfl,λe'=>(ft (e.symm.trans e'))⟩ c s O.le (O.fr 0 H) (D (gY _) (O.Zu 0 H)))
structure Ee where
 ae:sE
 au:sE
 ag:M×M
 ay:V M
 aL:V M
variable {iy:Ee} {rl:V (sE×V Ee)} {el:V Ee}
noncomputable def Ee.aR(G:Gm)(t:M)(e:Ee):V LV:=[f2 (nL e.ay),f0 t,f2 (nL e.aL),f0 (G.it e.ag:M)]
noncomputable def Ee.aM(G:Gm)(t:M)(e:Ee):LO:=f4 556 e.au (e.aR G t)
noncomputable def CY(el:V Ee):V LV:=el.map λe=>Y e.ae
noncomputable def R9(G:Gm)(t:M)(pre:V (sE×LO))(c:sE)(el:V Ee):V (sE×LO):=pre++(c,f1 (CY el))::el.map λe=>(e.ae,e.aM G t)
noncomputable abbrev Mv(G:Gm)(S:V SR)(F:M->M)(q:Cf)(e:Ee):Prop:=xo S 0 e.ay=J q.st/\(∃nw ρ,e.ay=nw++(G.Zv e.ag.1).take e.ag.2/\DL G [G.aa] (nw++G.ZE e.ag.1::ρ)/\X6 G F q.aF ((G.Zv e.ag.1).drop e.ag.2++ρ) e.aL)/\R e.ay<=41000/\R e.aL<=3280200
def Mv.aH(h:Mv G S F q iy):=h.1
def Mv.ex(h:Mv G S F q iy):=h.2.1
def Mv.ls(h:Mv G S F q iy):=h.2.2.1
def Mv.lu(h:Mv G S F q iy):=h.2.2.2
noncomputable abbrev U3(G:Gm)(S:V SR)(F:M->M)(q:Cf):Prop:=(∀k∈q.rs,∃σ ρ,Pa G S F q.aF sD (q.st,(k,R (G.Zv k)),1) σ ρ)/\∀r p,S[q.st]?=J r->p∈r.aJ->∃f σ ρ,Pa G S F q.aF sD (q.st,p,f) σ ρ
def U3.bW(h:U3 G S F q):=h.1
def U3.sh(h:U3 G S F q):=h.2
noncomputable abbrev Rt(G:Gm)(S:V SR)(F:M->M)(q:Cf)(p:M×M)(mf:bn):Prop:=mf = !b8 (G.M2 p=(q.aF:M))/\((mf=pH/\(G.Zv p.1)[p.2]?=sD)\/(mf=Zt/\(G.Zv p.1)[p.2]?=J q.aF/\q.aF<G.aa))/\∃fl σ ρ,Pa G S F q.aF sD (q.st,p,fl) σ ρ/\(fl=1\/mf=Zt)
def Rt.ai(h:Rt G S F q p mf):=h.1
def Rt.aN(h:Rt G S F q p mf):=h.2.1
def Rt.ao(h:Rt G S F q p mf):=h.2.2
theorem Ru:(R9 G t pre c el)[R pre]?=J (c,f1 (CY el)):=by unfold R9;refine D (il (gC _)) (D (iI _) ?_);rfl
theorem Rv(h:iy∈el):(iy.ae,iy.aM G t)∈R9 G t pre c el:=gU _ (gH _ (gL.mpr (ti iy h H)))
theorem Rw{e:Ee}(O:sX E s ((e.ae,e.aM G t)::R9 G t pre c el))(hv:ρ[3]?=J (J (Y c)))(h6:ρ[6]?=J (J (Y e.ae)))(hz:R el<=10000000)(k:∀s',sX E s' (R9 G t pre c (el++[e]))->bb ρ s' Kb) :
  qo (qr (qV qT qW (U 3) (pL (U 6) pK))) bb ρ s Kb:=by
 have O:=O.perm (km _ _).symm;have hp:(R9 G t pre c el++[(e.ae,e.aM G t)])[R pre]?=J (c,f1 (CY el)):=by refine D (hV (gB.mp Ru).1) ?_;exact Ru
 refine cU O (R pre) hp (Z hv) (Z h6) (by unfold CY;exact D (gy _) (tY [10000000,16777215] 0x4240900120402 H hz)) λs O=>k s (jD ?_ O)
 congr 1
 unfold R9 CY
 (rewrite[gW];refine D (kj _ _ (gC _)) (D (iI _) (D gF (D gF ?_))))
 rfl
theorem fL(hF:G.ZU)(h:TL G S F q.aF q.st iy.ag mf tr iy.ay iy.aL)(ht:∀T,tr=J T->xo S 0 T=J q.st/\R T<=41000)(hS:R S<=1025):Mv G S F q iy:=by
 obtain ⟨⟨fl,ρ,hP,_,hx⟩,h1,h2⟩:=h;refine s9 (hP.ĭ hF) λnw e1 hd=>⟨?_,(tU nw ρ.flatten e1 hd hx),?_,h2⟩
 .cases tr with
  | none=>exact hP.walk
  | some T=>
   have:=hP.n_.1;rw[show(Px q.st (J T),iy.ag,fl).1=R T from H,ic]at this;exact D this ((ht T H).1)
 .cases tr with
  | none=>exact gA h1 (by refine(?_:R S*40<=_);lia)
  | some T=>
   have:=hP.n_.1;rw[show(Px q.st (J T),iy.ag,fl).1=R T from H,ic]at this;exact D this ((ht T H).2)
theorem Rt.of(ZQ:zW G S be q)(hR:U3 G S F q)(hE:R8 G S q I)(hp:p∈F9 G q.rs++I):∃mf,Rt G S F q p mf:=by
 refine(gP.mp hp).elim (λhp=>?_) λhp=>?_
 .refine vp p (gL.mp hp) λk hk=>?_
  have hn:(G.Zv k)[R (G.Zv k)]?=sD:=iz (gC _);refine KC (hR.bW k hk) λσ ρ hP=>⟨pH,?_,.inl ⟨H,hn⟩,1,σ,ρ,hP,.inl H⟩
  exact D (sT λh=>uH (hn.symm.trans (Km.mp h))) H
 .cases pu:q.aU with
  | false=>rw[hE.bq pu]at hp;cases hp
  | true=>
   (refine vS (hE.aU pu) λp' r e9 hr wS ht=>?_;subst e9)
   rw[gJ]at hp;subst hp;exact WI (hR.sh r p hr wS) λf σ ρ hP=>⟨Zt,by exact D (sM (Km.mpr ht)) H,.inr (uS H ht ZQ.aF),f,σ,ρ,hP,.inr H⟩
noncomputable abbrev WD(G:Gm)(S:V SR)(F:M->M)(q:Cf)(I:V (M×M))(st:LH)(c4 c:sE)(i:M)(s:LH):Prop:=∃el,sX st s (R9 G q.aF [(c4,f1 (nL (I.map G.it)))] c el)/\el.map (·.ag)=I.take i/\∀e∈el,Mv G S F q e
noncomputable def WD.ex(h:WD G S F q I E a c i s):=h
noncomputable def Xv.ZA(v f cq c:sE)(z:sF LV×sF LV×sF LV):uZ:=[J (Y v),J (Y f),J (Y cq),J (Y c),z.1,z.2.1,z.2.2]
theorem Rx(h:GX E g G x)(hF:G.ZU)(B:x4 G S)(hX:VX E l d g a da ad Cl c8 G S be)(hf:FX E f cp a g nu fm G F)(hq:E c2=J (q.aM cr))(hz:R I<=1000)(hp:I[i]?=J p)(lm:G.Ok p)(hI:Rt G S F q p mf)(O:sX E s (R9 G q.aF [(c1,f1 (nL (I.map G.it)))] c el))(zn:el.map (·.ag)=I.take i)(he:∀e∈el,Mv G S F q e)
  (hK:∀z s,WD G S F q I E c1 c (i+1) s->K1 .next (Xv.ZA l f c2 c z) s):An (Xv.ZA l f c2 c (J (f0 (G.it p:M)),J (ii mf),J .none)) s K1:=by
 refine cL (t:=pH) (rL (Z H) rD (sd (y:=.none))) (λø=>?_) λq=>tf q
 refine cQ (cT (Z (v:=Y f) H _ ⟨cK (hf.Zz O.le).ar,cC (rH (v:=f0 q.st) (Z H) (rT (O.le _ _ hq) H) _ (cC (cG H (cC (rH (v:=f0 q.aF) (Z H) (rT (O.le _ _ hq) H) _ (cC (cG H (cH (L9 (h.Zz O.le) hF B (hX.ax.Zz O.le) (hf.Zz O.le) (gA (B.len hF.toSm) (by decide)) lm hI.aN (λPi=>?_) λex dx σ u s' hE O'=>?_)))))))))⟩))
 .exact vL hI.ao λfl σ ρ hP hm=>absurd (uS H rfl hm) (Pi _ σ ρ hP)
 .have O:=O.ret O'.le (O'.fr 0 H) (O'.Zu 0 H);refine sP (sP (cL (t:=pH) (rL (Z H) rD (sf (y:=.none) nofun)) (λø=>?_) λq=>tf q));refine Rw (e:=⟨ex,dx,p,σ,u⟩) O H rfl (tD [1000,10000000] 0x424090a40800128403 H hz (by exact tj (gy (f:=λe:Ee=>e.ag)) (D zn (D iA (iT _ _))):R el<=R I)) λs O=>hK (J (f0 (G.it p:M)),J (ii mf),J (Y ex)) s ⟨_,O,by exact D gF (D zn (D (tF hp) H)),λe' FM=>?_⟩
  rcases gP.mp FM with FM | FM
  .exact he e' FM
  .exact D (gJ.mp FM) (fL hF hE (λT hT=>uH hT) (B.len hF.toSm))
theorem TP(h:GX E g G x)(hF:G.ZU)(B:x4 G S)(hX:VX E l d g a da ad Cl c8 G S be)(hf:FX E f cp a g nu fm G F)(hq:E c2=J (q.aM cr))(hz:R I<=1000)(hp:I[i]?=J p)(lm:G.Ok p)(hI:Rt G S F q p mf)(rC:WD G S F q I E c1 c i s){z:sF LV×sF LV×sF LV}
  (hK:∀z s,WD G S F q I E c1 c (i+1) s->K1 .next (Xv.ZA l f c2 c z) s):Be ((Xv.ZA l f c2 c z).set 4 (J (f0 (G.it p:M)))) s K1:=by
 refine tW rC λel O zn he=>?_
 refine cI (v:=ii mf) (D hI.ai (rE (rK (rH (Z H) (rT (hX.Zz O.le).ar H)) (cK (h.Zz O.le).hg) (cE (Z H) cF) (C7 (h.Zz O.le) lm)) (rH (v:=f0 q.aF) (Z H) (rT (O.le _ _ hq) H)) r4)) (sP (cI rD (sP (cJ (dG (L.k? O 1 H (Z H) λs O=>?_))))));have plain:=λs O=>Rx (s:=s) h hF B hX hf hq hz hp lm hI (el:=el) O zn he hK
 cases el with
 | nil=>exact Cb (plain s O)
 | cons e0 el=>
  have h0:=he e0 gI;refine PF (cQ (cT (Z (v:=Y f) H _ ⟨cK (hf.Zz O.le).ar,cC (rH (v:=f0 q.st) (Z H) (rT (O.le _ _ hq) H) _ (cC (cG H (cC (rH (v:=f0 q.aF) (Z H) (rT (O.le _ _ hq) H) _ (cC (cG H (cC (rH (v:=f2 (nL e0.ay)) (rE (Z H) rD (r5 (n:=0) (O.Zu 1 H:s c=J (f1 (CY (e0::el)))) H)) (rT ((O.ZT _ (Rv gI)).1:s e0.ae=J (e0.aM G q.aF)) H) _ (cH (Py (tr:=J e0.ay) (h.Zz O.le) hF B (hX.ax.Zz O.le) (hf.Zz O.le) (jO h0.ls) lm hI.aN (λø s' hle=>?_) λex dx σ u s' hE O'=>?_)))))))))))⟩)))
  .exact sP (plain s' (O.Zz hle))
  .have O:=O.ret O'.le (O'.fr 0 H) (O'.Zu 0 H);refine sP (sP (cL (t:=Zt) (rL (Z H) rD (se (y:=.none) nofun)) (λq=>ft q) λø=>sP (cJ (cL (t:=pH) (rL (Z H) rD (sf (y:=.none) nofun)) (λø=>?_) λq=>tf q))));refine Rw (e:=⟨ex,dx,p,σ,u⟩) O H rfl (tD [1000,10000000] 0x424090a40800128403 H hz (by exact tj (gy (f:=λe:Ee=>e.ag)) (D zn (D iA (iT _ _))):R (e0::el)<=R I)) λs O=>hK (J (f0 (G.it p:M)),J (ii mf),J (Y ex)) s ⟨_,O,by exact D gF (D zn (D (tF hp) H)),λe' FM=>?_⟩
   rcases gP.mp FM with FM | FM
   .exact he e' FM
   .exact D (gJ.mp FM) (fL hF hE (λT hT=>by refine tj (gv hT) ?_;exact⟨h0.aH,h0.ls⟩) (B.len hF.toSm))
theorem IK(h:GX E g G x)(hF:G.ZU)(B:x4 G S)(hX:VX E ad d g a da Cl c8 c2 G S be)(hf:FX E f c1 a g nu fm G F)(hq:E cr=J (q.aM cp))(ZQ:zW G S be q)(hR:U3 G S F q)
  (k:∀am c el s',R8 G S q am->el.map (·.ag)=F9 G q.rs++am->(∀e∈el,Mv G S F q e)->sX E s' (R9 G q.aF [] c el)->K (Y c) s'):AK [Y ad,Y f,Y cr] E K:=by
 refine HG (dC (sX.init E) λc s O=>(tW ZQ.ao λr hr pc pu=>?_));have Ex:=(B.exp hr).1;refine dE (cX (cO (cC (cG H (cC (cG H (cH (Ga (h.Zz O.le) hF B (hX.Zz O.le) (O.le _ _ hq) ZQ λam hE=>RL.ZC O λc4 s O=>?_))))))));generalize hI:F9 G q.rs++am=I at O
 have hlen:R I<=1000:=by
  refine tj hI (D gK (D (gy _) ?_))
  have:R am<=1:=by
   cases pu:q.aU with
   | false=>exact D (hE.bq pu) (gE _)
   | true=>(refine vX (hE.aU pu) λp r e9 ø=>?_;refine D e9 ?_);exact gC _
  exact tD [20,1,1000] 0x4129001204250800120403 H (gA (tP ZQ.nd λk hk=>(pc k hk).1) Ex.aX.1:R q.rs<=20) this
 have hIo:∀p∈I,G.Ok p:=λp hp=>by
  rw[<- hI]at hp
  rcases gP.mp hp with hp | hp
  .exact vp p (gL.mp hp) λk hk=>⟨(Ex.o0.ok _ ((Ex.rs k).mp (pc k hk).1).2).ao,gC _⟩
  .cases pu:q.aU with
   | false=>rw[hE.bq pu]at hp;cases hp
   | true=>
    (refine vS (hE.aU pu) λp' r' e9 ZP wS ht=>?_;subst e9)
    obtain rfl:=gv (hr.symm.trans ZP);rw[gJ]at hp;subst hp;exact Ex.o0.ok p wS
 refine yR (loc:=Xv.ZA ad f cr c) (z0:=(sD,sD,sD)) (vs:=nL (I.map G.it)) (l:=c4) (λi ø s=>WD G S F q I E c4 c i s) (λi z s rC=>rC.ex.elim λel h=>h.1.Zu 0 H) ⟨[],O,H,λe he=>uG he⟩ (λi w z s K1 hw rC ZW=>?_) λz s rC=>sP ?_
 .refine Bt w (LN hw) λp hp=>?_
  have hm:=gz hp;exact xE (Rt.of ZQ hR hE (hI▸hm)) λmf hmf=>TP h hF B hX hf hq hlen hp (hIo p hm) hmf rC λz s rC=>ZW .next _ _ (ti z H rC)
 .refine tW rC λel O zn he=>?_
  rw[sU,gy,ic]at zn;exact cP (Z H) (k am c el s hE (zn.trans hI.symm) he O.tail)
noncomputable abbrev EX(G:Gm)(S:V SR)(F:M->M)(s:LH)(q:Cf)(c:sE)(el:V Ee):Prop:=s c=J (f1 (CY el))/\(∀e∈el,s e.ae=J (e.aM G q.aF)/\Mv G S F q e)/\∃am,R8 G S q am/\el.map (·.ag)=F9 G q.rs++am
def EX.aB(h:EX G S F s q c el):=h.1
def EX.ai(h:EX G S F s q c el):=h.2.1
def EX.it(h:EX G S F s q c el):=h.2.2
theorem EX.Zz(h:EX G S F s q c el)(l:Le s E):EX G S F E q c el:=⟨l _ _ h.aB,λe he=>⟨l _ _ (h.ai e he).1,(h.ai e he).2⟩,h.it⟩
noncomputable def Ry(qs:CL)(rl:V (sE×V Ee)):V LV:=(qs.zip rl).map λp=>f2 [Y p.1.1,Y p.2.1]
noncomputable abbrev Xw(G:Gm)(S:V SR)(F:M->M)(qs:CL)(s0:LH)(i:M)(acc:V LV)(s:LH):Prop:=Le s0 s/\∃rl:V (sE×V Ee),R rl=i/\acc=Ry (qs.take i) rl/\∀(j:M) q r,qs[j]?=J q->rl[j]?=J r->EX G S F s q.2.2 r.1 r.2
def Xw.le(h:Xw G S F qs E i vs s):=h.1
def Xw.ex(h:Xw G S F qs E i vs s):=h.2
theorem B5(h:GX E g G x)(hF:G.ZU)(B:x4 G S)(hX:VX E l d g a da ad Cl c8 G S be)(hl:E c2=J (f1 (wh qs)))(hz:R qs<=1000)(hq:∀q∈qs,E q.1=J (q.2.2.aM q.2.1)/\zW G S be q.2.2)(hR:∀F,G3 G F->∀q∈qs,U3 G S F q.2.2)
  (k:∀c F rl s',G3 G F->Le E s'->E c=sD->s' c=J (f1 (Ry qs rl))->R rl=R qs->(∀(j:M) q r,qs[j]?=J q->rl[j]?=J r->EX G S F s' q.2.2 r.1 r.2)->K (Y c) s'):wy [Y l,Y c2] E K:=by
 refine FI (cQ (dS (sX.init E) (cE (rH (Z H) (rT hX.ar H)) cF) λf fd s O=>IH h hF hX.ax O λnu fm F s' ŧ O=>⟨H,sP ?_⟩));have hf:FX s' f fd a g nu fm G F:=⟨O.Zu 2 H,O.Zu 1 H,O.Zu 0 H,ŧ⟩;refine cZ (dJ (cX (Z H _ (Gk (O.le _ _ hl) (EP (ρ0:=[sD,J (Y l),J (Y f)]) (λi acc s=>Xw G S F qs s' i acc s) H ⟨Le.refl _,[],H,H,λj q r hq hr=>uH hr⟩ (λi a s hi rC=>by unfold qD;exact D (rC.le _ _ (O.le _ _ hl)) H) (D (gy ..) (tY [1000,16777215] 0x4240900120402 H hz)) (λi w acc s jp Ky hw hi rC d_ hy=>?_) λacc s xL rC c hc=>?_)))))
 .refine Ea jp d_ λy=>?_
  obtain ⟨hle,rl,Z2,e,hE⟩:=rC;rw[gG]at hw;refine vp w (gR.mp hw) λq ċ=>xA (hq q (gz ċ)) λh1 h2=>cC (cG H (cC (cO (cC (cG H (cC (cG H (cC (cG H (cH (IK (h.Zz (O.le.trans hle)) hF B (hX.Zz (O.le.trans hle)) (hf.Zz hle) ((O.le.trans hle) _ _ h1) h2 (hR F ŧ q (gz ċ)) λam c el s2 Ŧ zn he O2=>cH ⟨gQ H,hy _ _ ⟨hle.trans O2.le,rl++[(c,el)],by exact D gK (D Z2 H),?_,λj q' r At hr=>?_⟩⟩)))))))))))
  .refine D e (D (tF ċ) ?_);unfold Ry;refine D (List.zip_append (by exact D iA (D Z2 (iO (iG ((gB.mp ċ).1)))))) (D gF ?_);rfl
  .by_cases hj:j<R rl
   .rw[hV hj]at hr;exact(hE j q' r At hr).Zz O2.le
   .rw[il (jd hj)]at hr;have Gc:j=i:=by have:=(gB.mp hr).1;rw[jU]at this;exact gZ (Dp [1] 0x29024218e008c013842530444 H Z2 this (gO (tD [] 0x428485204a2 H hj))) (uy [] 0x428486204a530463 H Z2 hj)
    have hr:=gJ.mp (gz hr);subst Gc;refine tj (gv (ċ.symm.trans At)) ?_;refine D hr ?_;exact⟨O2.Zu 0 H,λe FM=>⟨(O2.ZT _ (Rv FM)).1,he e FM⟩,am,Ŧ,zn⟩
 .obtain ⟨hle,rl,Z2,e,hE⟩:=rC;rw[(gy ..)]at Z2 e;rw[ic]at e;exact k c F rl _ ŧ ((O.le.trans hle).upd ((sX.init E).Zz (O.le.trans hle) |>.none hc)) ((sX.init E).Zz (O.le.trans hle) |>.none hc) (by (rewrite[te];exact D e H)) Z2 λj q r hq hr=>(hE j q r hq hr).Zz (Le.new hc)
noncomputable def Gm.nm(G:Gm)(X:M):ap:=G.ZH.getD X ""
noncomputable def xr(G:Gm)(l:V M):V LV:=l.map λX=>g3 (G.nm X)
noncomputable abbrev Gm.Nm(G:Gm):Prop:=G.ZH.Nodup/\(∀x∈G.ZH,jI x=pH)/\G.nm G.aa="$accept"/\G.nm (G.aa+1)="s"/\G.nm 0="$end"
def Gm.Nm.nd(h:Gm.Nm G):=h.1
def Gm.Nm.ok(h:Gm.Nm G):=h.2.1
def Gm.Nm.ac(h:Gm.Nm G):=h.2.2.1
def Gm.Nm.ay(h:Gm.Nm G):=h.2.2.2.1
def gr(h:Gm.Nm G):=h.2.2.2.2
theorem ey(h:X<R G.ZH):G.ZH[X]?=J (G.nm X):=by
 unfold Gm.nm;refine D (iJ) (D (gM h) ?_);rfl
theorem Gm.Nm.inj(h:G.Nm)(hX:X<R G.ZH)(hY:sC<R G.ZH)(e:G.nm X=G.nm sC):X=sC:=
 (jq hX h.nd).mp ((ey hX).trans ((sJ J e).trans (ey hY).symm))
theorem Gm.Nm.str(h:G.Nm)(hX:X<R G.ZH):jI (G.nm X)=pH:=h.ok _ (gz (ey hX))
theorem Np(h:w[i]?=J X):(xr G w)[i]?=J (g3 (G.nm X)):=by unfold xr;refine D (gG) (D h ?_);rfl
theorem uR:R (xr G w)=R w:=gy ..
theorem Ko:xr G w++xr G ts=xr G (w++ts):=by unfold xr;exact D gF H
theorem TQ(h:G.Nm):∀{l':V M},(∀X∈w,X<R G.ZH)->(∀X∈l',X<R G.ZH)->xr G w=xr G l'->w=l':=by
 induction w with
 | nil=>intro l' _ _ e;cases l' with | nil=>rfl | cons=>exact(sN kL e).elim
 | cons X w ih=>
  intro l' h1 h2 e;cases l' with
  | nil=>exact(sN kL e).elim
  | cons sC l'=>
   exact congr (sJ List.cons (h.inj (h1 X gI) (h2 sC gI) (LV.str.inj (kP e).1))) (ih (λbv hZ=>h1 bv (gH _ hZ)) (λbv hZ=>h2 bv (gH _ hZ)) (kP e).2)
theorem Ih{G:Gm}(h:G.Nm):∀{l:V M},(∀X∈l,X<R G.ZH)->uT 3 (xr G l)=pH
 | [],_=>rfl
 | X::l,h1=>by
  refine(?_:(xC 3 (g3 (G.nm X))&&uT 3 (xr G l))=pH);exact D (Ih h λbv hZ=>h1 bv (gH _ hZ)) (D (n5 _) (h.str (h1 X gI)))
noncomputable abbrev HX(st:LH)(cr:sE)(G:Gm)(ca:M->sE):Prop:=st cr=J (f1 (rM (R G.ZF) λr=>f2 [g3 (G.nm (G.ZE r)),Y (ca r)]))/\(∀r,r<R G.ZF->st (ca r)=J (f1 (xr G (G.Zv r))))/\G.Nm
def HX.aB(h:HX s cr G ca):=h.1
def HX.ao(h:HX s cr G ca):=h.2.1
def HX.nm(h:HX s cr G ca):=h.2.2
theorem HX.Zz(h:HX s cr G ca)(l:Le s E):HX E cr G ca:=⟨l _ _ h.aB,λr hr=>l _ _ (h.ao r hr),h.nm⟩
theorem V6(h:pT p=pT k'):p=k':=by
 injection h with h
 injection h with h1 h
 injection h with h2 _
 exact ji (iQ (LV.int.inj h1)) (iQ (LV.int.inj h2))
theorem E3:∀l:V (M×M),uT 3 (l.map pT)=pH
 | []=>rfl
 | p::l=>by
  refine(?_:(xC 3 (pT p)&&uT 3 (l.map pT))=pH);exact D (E3 l) H
theorem V7:pT p∈I.map pT<->p∈I:=⟨λh=>by
 exact s9 (gL.mp h) λq hq e=>V6 e▸hq,iD⟩
namespace Op
theorem z?(h:G.Nm)(hX:X<R G.ZH)(hY:sC<R G.ZH):Op (qk Zt (g3 (G.nm X)) (g3 (G.nm sC))) s (ii (b8 (X=sC))):=λK k=>
 (uS (h.str hX) (h.str hY) (by
  exact D (lK _) (D (show decide (g3 (G.nm X)=g3 (G.nm sC))=b8 (X=sC) from t6.mpr ⟨λe=>h.inj hX hY (LV.str.inj e),λe=>D e H⟩) (k))))
theorem Ņ{neg:bn}(hl:s l=J (f1 (I.map pT))):Op (ql neg (pT p) (Y l)) s (ii (neg != b8 (p∈I))):=λK k=>by
 unfold ql;simp only[hl];exact(uS H (E3 I) (D (show decide (pT p∈I.map pT)=b8 (p∈I) from t6.mpr V7) k))
end Op
noncomputable def Xx.ZA(cr l c:sE)(z:M×sF LV×sF LV×sF LV×sF LV):uZ:=[J (Y cr),J (Y l),J (Y c),J (f0 z.1),z.2.1,z.2.2.1,z.2.2.2.1,z.2.2.2.2]
noncomputable abbrev Mw(G:Gm)(I:V (M×M))(n:M)(rC:V (M×M)):Prop:=rC.Nodup/\(∀p∈rC,G.Ok p)/\(∀p∈I,p∈rC)/\∀(i:M) p X,i<n->rC[i]?=J p->(G.Zv p.1)[p.2]?=J X->∀r,r<R G.ZF->G.ZE r=X->(r,0)∈rC
def Mw.nd(h:Mw G I i rC):=h.1
def Mw.ok(h:Mw G I i rC):=h.2.1
def Mw.sub(h:Mw G I i rC):=h.2.2.1
def Mw.cl{n:M}(h:Mw G I n rC):=h.2.2.2
theorem Mw.add(h:Mw G I t rC)(hn:t<=R rC)(hr:r<R G.ZF)(hm:(r,0)∉rC):Mw G I t (rC++[(r,0)]):=
 ⟨iP.mpr (uS h.nd (u5 _) (λa ha b hb e=>hm (by rw[gJ]at hb;exact(e.trans hb)▸ha))),λp hp=>by
  rcases gP.mp hp with hp | hp
  .exact h.ok p hp
  .refine D (gJ.mp hp) ?_;exact⟨hr,gE _⟩,λp hp=>gV _ (h.sub p hp),λi p X hi hp hX r' ZP hl=>by
  rw[hV (by exact uy [] 0x5204a62042530403 H hn hi)]at hp;exact gV _ (h.cl i p X hi hp hX r' ZP hl)⟩
noncomputable abbrev Xy(G:Gm)(I:V (M×M))(st:LH)(c:sE)(m n:M)(s:LH):Prop:=(∃rC,sX st s [(c,f1 (rC.map pT))]/\Mw G I n rC/\n<=R rC)/\m=20 - n
def Xy.ex(h:Xy G I E c m i s):=h.1
def Xy.aA{n:M}(h:Xy G I E c m n s):=h.2
theorem TR(hH:HX E cr G ca)(hF:G.ZU)(O:sX E s [(c,f1 (rC.map pT))])(W:Mw G I m rC)(hn:m<R rC){z:sF LV×sF LV×sF LV×sF LV}
  (hK:∀z s,(∃rC,sX E s [(c,f1 (rC.map pT))]/\Mw G I (m+1) rC/\m+1<=R rC)->Kb .next (Xx.ZA cr l c (m+1,z)) s):Dv (Xx.ZA cr l c (m,z)) s Kb:=by
 refine xE (⟨_,gM hn⟩ : ∃p,rC[m]?=J p) λp hp=>?_
 have lm:=W.ok p (gz hp);have Z6:(rC.map pT)[m]?=J (pT p):=by refine D (gG) (D hp ?_);rfl
 have Ũ:=hH.Zz O.le;have hr:=Ũ.ao p.1 lm.ao;have fin:∀z s,(∃rC,sX E s [(c,f1 (rC.map pT))]/\Mw G I (m+1) rC/\m+1<=R rC)->CM (Xx.ZA cr l c (m,z)) s Kb:=λz s h=>cI (v:=f0 (m+1:M)) (rE (Z H) rD rU) (sP (hK z s h))
 refine dK (v:=pT p) (rE (Z H) (Z H) (r5 (O.Zu 0 H) Z6)) H (sP (cJ (cI (v:=Y (ca p.1)) (rE (rE (Z H) (Z H) (r5 Ũ.aB (ux lm.ao))) rD (r8 (n:=1) H)) (sP (cL (t:=b8 ((p.2:al)<R (xr G (G.Zv p.1)))) (rL (Z H) (rJ (cE (Z H) cF) (sa hr)) rX) (λq=>?_) λq=>sP (fin (J (f0 p.1),J (f0 p.2),J (Y (ca p.1)),z.2.2.2) s (tC rC O ⟨W.nd,W.ok,W.sub,λi p' X hi sn hX r ZP hl=>?_⟩ hn)))))))
 .have q:=sQ q;rw[uR]at q;have q:p.2<R (G.Zv p.1):=g8.mp q;have hX:=gM q;generalize (G.Zv p.1)[p.2]=X at hX;refine dH (loc:=λy7=>Xx.ZA cr l c (m,J (f0 p.1),J (f0 p.2),J (Y (ca p.1)),y7)) (z0:=z.2.2.2) (n:=R G.ZF) (λi ø s=>∃rC,sX E s [(c,f1 (rC.map pT))]/\Mw G I m rC/\rC[m]?=J p/\∀r,r<i->G.ZE r=X->(r,0)∈rC) (by rw[<- uJ (n:=R G.ZF)];exact rJ (cE (Z H) cF) (sa Ũ.aB)) (gA hF.toSm.aO (by decide)) (wU rC O W hp (λr hr=>absurd hr (iF _))) (λi y s K1 hi rC ZW=>?_) λy s rC=>sP (sP (fin _ s ?_))
  .refine yf rC λrC O W hp hd=>?_
   have I!:=(gB.mp hp).1;refine cL (rO (rL (rE (rE (Z H) (Z H) (r5 (hH.Zz O.le).aB (ux hi))) rD (r8 (n:=0) H)) (rE (Z H) (Z H) (r5 ((hH.Zz O.le).ao p.1 lm.ao) (Np hX))) (Op.z? (hH.Zz O.le).nm (hF.toSm.lf i hi) (hF.toSm.ZT lm.ao hX))) λø=>rQ (rL (cW (Z H) rD) (Z H) (Op.Ņ (p:=(i,0)) (O.Zu 0 H)))) (λq=>?_) λq=>sP (ZW .next _ _ (xy (J (f0 i)) H rC O W ⟨hp,λr hr hl=>?_⟩))
   .refine cU O 0 H (v:=pT (i,0)) (Z H) (cW (Z H) rD) (D (gy _) (tY [20,16777215] 0x4240900120402 H (vQ hF.toSm W.nd W.ok))) λs O=>ZW .next _ _ (xy (J (f0 i)) H (rC++[(i,0)]) (D gF O) (W.add (tD [] 0x52048520422 H I!) hi (by simpa using ((jn ..).mp q).2:(i,0)∉rC)) ⟨by refine D (hV I!) ?_;exact hp,λr hr hl=>?_⟩)
    by_cases e:r=i
    .refine D e.symm ?_;exact gU _ (iE _)
    .exact gV _ (hd r (Io hr e) hl)
   .by_cases e:r=i
    .obtain rfl:=e.symm;rw[sM hl]at q
     simpa using q
    .exact hd r (Io hr e) hl
  .refine yf rC λrC O W hp hd=>(tC rC O ⟨W.nd,W.ok,W.sub,λi p' sC hi sn hY r ZP hl=>?_⟩ ((gB.mp hp).1))
   by_cases e:i=m
   .obtain rfl:=e.symm;obtain rfl:=gv (hp.symm.trans sn);obtain rfl:=gv (hX.symm.trans hY);exact hd r ZP hl
   .exact W.cl i p' sC (Io hi e) sn hY r ZP hl
 .by_cases e:i=m
  .obtain rfl:=e.symm;obtain rfl:=gv (hp.symm.trans sn);have q:=sW q;rw[uR]at q;exact absurd (g8.mpr (gB.mp hX).1) q
  .exact W.cl i p' X (Io hi e) sn hX r ZP hl
theorem Ii(hH:HX E cr G ca)(hF:G.ZU)(hl:E l=J (f1 (I.map pT)))(hn:I.Nodup)(ho:∀p∈I,G.Ok p)
  (k:∀rC:V (M×M),rC.Nodup->(∀p∈rC,G.Ok p)->(∀p∈I,p∈rC)->(∀p∈rC,∀X,(G.Zv p.1)[p.2]?=J X->∀r,r<R G.ZF->G.ZE r=X->(r,0)∈rC)->RL E K (rC.map pT)):BJ [Y cr,Y l] E K:=by
 refine Lh (eK (sX.init E) (Z H) hl (D (gy _) (D sS (tY [20,16777216] 0x4240900120402 H (vQ hF.toSm hn ho)))) λc s O=>(cI rD (sP (cJ (L.Do (loc:=Xx.ZA cr l c) (z0:=(0,sD,sD,sD,sD)) (λm z s=>Xy G I E c m z.1 s) (m0:=20) ⟨(tC I O ⟨hn,ho,λp hp=>hp,λi p X hi=>absurd hi (iF _)⟩ (gE _)),H⟩ λm z s W=>?_)))));obtain ⟨⟨rC,O,W,hle⟩,hm⟩:=W;refine(tC _ (rL (Z H) (rJ (cE (Z H) cF) (sa (O.Zu 0 H))) rX) (λq Kb hK=>?_) (λq=>sP (cP (Z H) (k rC W.nd W.ok W.sub (λp hp X hX r hr hl=>?_) c s O.le (O.fr 0 H) (O.Zu 0 H)))))
 .have q:=sQ q;rw[gy]at q;have q:z.1<R rC:=g8.mp q;exact TR hH hF O W q λz' s h=>hK .next _ _ (vA (z.1+1,z') H (20 - (z.1+1)) (D hm (pv (ij q (vQ hF.toSm W.nd W.ok)) (iC _))) ⟨h,H⟩)
 .have q:=sW q;rw[gy]at q;refine xE (ie hp) λi hi=>?_
  exact W.cl i p X (ij (gB.mp hi).1 (jd λh=>q (g8.mpr h))) hi hX r hr hl
theorem eP(O:sX E s pre)(he:Ev e ρ s (Y c))(hl:s c=J (f1 vs)\/∃o,s c=J (SZ o vs))(h1:Ev mo ρ s v)(h2:Ev ma ρ s b)(hz:R vs<=th)(ha:Jw v (R vs)=J i)(hb:Jx b (R vs)=J j)(k:∀c' s',sX E s' ((c',f1 ((vs.drop i).take (j - i)))::pre)->KE (Y c') s'):qj e mo ma ρ s KE:=
 he _ (h1 _ (h2 _ (tq vs i j hl ha hb hz (λc' ul=>k c' _ (O.new ul)))))
theorem dX(O:sX E s pre)(he:Ev e ρ s (Y c))(hl:s c=J (f1 vs))(h1:Ev mo ρ s v)(h2:Ev ma ρ s b)(hz:R vs<=th)(ha:Jw v (R vs)=J i)(hb:Jx b (R vs)=J j)(k:∀c' s',sX E s' ((c',f1 ((vs.drop i).take (j - i)))::pre)->KE (Y c') s'):qj e mo ma ρ s KE:=eP O he (.inl hl) h1 h2 hz ha hb k
theorem Gb:Jw (f0 i) t=J (min i t):=by
 refine(?_:J (if ((i:M):al)<0 then t - (-((i:M):al)).toNat else min ((i:M):al).toNat t)=_);exact D (sH (jy.mpr (ig i))) (D (jl _) H)
theorem CZ{d:M}:Jx (f0 d) i=J (min d i):=by
 refine(?_:J (if ((d:M):al)<0 then i - (-((d:M):al)).toNat else min ((d:M):al).toNat i)=_);exact D (sH (jy.mpr (ig d))) (D (jl _) H)
theorem Rz{α:Type}{l:V α}:(l.drop (min i (R l))).take (min t (R l) - min i (R l))=(l.drop i).take (t - i):=by
 by_cases h:i<=R l
 .refine D (iO h) ?_
  by_cases h2:t<=R l
  .exact D (iO h2) H
  .exact D (nS (show R l<=t by exact tD [] 0x52048428482 H h2)) (D (jT (by exact D je (gC _))) (D (jT (by exact D je (Mq [] 0x5204883140119cc40044740484 H h2 (gO (tD [] 0x52048520402 H h)) (gO (uy [] 0x6204853048520403 H h h2))))) H))
 .exact D (nS (show R l<=i by exact tD [] 0x52048428482 H h)) (D (lZ (gC _)) (D (lZ (by exact tD [] 0x52048428482 H h)) (D List.take_nil (D List.take_nil H))))
theorem Ma:(xr G w).drop i=xr G (w.drop i):=by unfold xr;exact D mX H
theorem Mb:(xr G w).take i=xr G (w.take i):=by unfold xr;exact D mW H
theorem eR(h:G.Nm){l':V M}(ha:s a=J (f1 (xr G w)))(hb:s g=J (f1 (xr G l')))(h1:∀X∈w,X<R G.ZH)(h2:∀X∈l',X<R G.ZH):Op (qk mf (Y a) (Y g)) s (ii (mf != b8 (w=l'))):=λK k=>by
 unfold qk;simp only[ha,hb];exact⟨.inr ⟨Ih h h1,Ih h h2⟩,by exact D (show decide (xr G w=xr G l')=b8 (w=l') from t6.mpr ⟨TQ h h1 h2,λe=>D e H⟩) k⟩
theorem Ot(hs:∀p∈I,p∈rC)(cl:∀p∈rC,∀X,(G.Zv p.1)[p.2]?=J X->∀r,r<R G.ZF->G.ZE r=X->(r,0)∈rC)(h:Y3 G I p):p∈rC:=by
 rcases h with h | ⟨h1,h2,q,hq,X,hX,h3⟩
 .exact hs p h
 .have hw:∀r,r<R G.ZF->G.ZE r=X->(r,0)∈rC:=cl q (hs q hq) X hX;refine D (ji H h1:p=(p.1,0)) ?_
  rcases h3 with h3 | h3
  .exact hw _ h2 h3
  .generalize hZ:G.ZE p.1=bv at h3
   have key:∀X bv,Ch (Pg G) X bv->(∀r,r<R G.ZF->G.ZE r=X->(r,0)∈rC)->∀r,r<R G.ZF->G.ZE r=bv->(r,0)∈rC:=by
    intro X bv h
    induction h with
    | single h=>exact tW h λr hr hl h0=>λhw=>cl (r,0) (hw r hr hl) _ h0
    | tail _ h ih=>exact tW h λr hr hl h0=>λhw=>cl (r,0) (ih hw r hr hl) _ h0
   exact key X bv h3 hw _ h2 hZ
noncomputable abbrev Xz(G:Gm)(S:V SR)(q:M)(σ:V M)(st:LH)(i:M)(c:sE)(s:LH):Prop:=∃(rC:V (M×M)) (p:M) (r:SR),sX st s [(c,f1 (rC.map pT))]/\rC.Nodup/\(∀p∈rC,G.Ok p)/\S[p]?=J r/\(∀x∈r.aJ,x∈rC)/\xo S p (σ.drop i)=J q
noncomputable def Xz.ex(h:Xz G S t σ E i c s):=h
noncomputable def X7.ZA(cr lp:sE)(z:sE×sF LV×sF LV×sF LV×sF LV):uZ:=[J (Y cr),J (Y lp),J (Y z.1),z.2.1,z.2.2.1,z.2.2.2.1,z.2.2.2.2]
theorem TS(hH:HX E cr G ca)(hF:G.ZU)(B:x4 G S)(hX:σ[i]?=J X)(İ:X<R G.ZH)(I:Xz G S t σ E i c s){z:sF LV×sF LV×sF LV×sF LV}
  (hK:∀c z s,Xz G S t σ E (i+1) c s->Kb .next (X7.ZA cr a (c,z)) s):Dw ((X7.ZA cr a (c,z)).set 3 (J (g3 (G.nm X)))) s Kb:=by
 refine C1 I λrC p r O hn ho hr Z1 hw=>?_
 rw[jk ((gB.mp hX).1),(gB.mp hX).2]at hw;refine s9 (kB.mp (show(vn S p X).bind (λp=>xo S p (σ.drop (i+1)))=J t from hw)) λp' hg AC=>xE (⟨_,gM (B.ġ hg)⟩ : ∃r',S[p']?=J r') λr' ZP=>?_
 refine dC O λc4 s O=>dM (loc:=λz:sF LV×sF LV=>X7.ZA cr a (c,J (g3 (G.nm X)),J (Y c4),z)) (z0:=z.2.2) (l:=c) (vs:=rC.map pT) (λj ø s=>sX E s [(c4,f1 ((vZ G X (rC.take j)).map pT)),(c,f1 (rC.map pT))]) (Z H) (λj z s O=>O.Zu 1 H) O (λj w z s K1 hw O ZW=>?_) λz s O=>sP ?_
 .rw[gG]at hw;refine vp w (gR.mp hw) λx hx=>?_
  have d!:=ho x (gz hx);refine(w1 _ _ H (dG (L.KT (dX O (c:=ca x.1) (vs:=xr G (G.Zv x.1)) (rE (rE (Z H) (Z H) (r5 (hH.Zz O.le).aB (ux d!.ao))) rD (r8 (n:=1) H)) ((hH.Zz O.le).ao x.1 d!.ao) (Z H) (rE (v:=f0 (x.2+1:M)) (Z H) rD rU) (D uR (D sS (tY [3,16777216] 0x4240900120402 H (hF.toSm.au x.1)))) Gb CZ λc5 s O=>cV (cC (cG H (cH ⟨gQ H,λc6 No=>?_⟩)))))));rw[Rz,Ma,Mb,show x.2+1 - x.2=1 by exact gZ (tD [1] 0x2409001280a400442 H (gO (tY [1] 0x48020481 H))) (tD [1] 0x100109001280a400462 H (gO (tY [1] 0x48020481 H)))]at O;have O:=O.new (o:=f1 (xr G [X])) No;refine eR (hH.Zz O.le).nm (O.Zu 1 H) (O.Zu 0 H) (λsC hY=>(hF.toSm.rt x.1 d!.ao) sC (mn (jC hY))) (λsC hY=>D (gJ.mp hY) İ) _ ?_;have O:=O.sub (l':=[(c4,f1 ((vZ G X (rC.take j)).map pT)),(c,f1 (rC.map pT))]) (.cons _ (.cons _ (mR _)))
  have t?:(G.Zv x.1)[x.2]?=J X<->((G.Zv x.1).drop x.2).take 1=[X]:=by
   refine D List.take_one (D (List.head?_drop) ?_);cases (G.Zv x.1)[x.2]? with
   | none=>exact⟨λh=>(uH h),λh=>((sN kL h).elim)⟩
   | some sC=>exact⟨λh=>by refine D (gv h) ?_;rfl,λh=>by injection h with h;exact D h H⟩
  refine Wr (λh=>?_) λh=>ZW .next _ _ (ti (J (f0 x.1),J (f0 x.2)) H ?_)
  .have h:(G.Zv x.1)[x.2]?=J X:=t?.mpr (by simpa using h);refine cU O 0 H (v:=pT (x.1,x.2+1)) (Z H) (cW (Z H) (rE (Z H) rD rU)) ?_ λs O=>ZW .next _ _ (ti (J (f0 x.1),J (f0 x.2)) H ?_)
   .unfold vZ;exact D (gy _) (D (gy _) (gA (jb ..) (gA (jW ..) (tY [20,16777215] 0x4240900120402 H (vQ hF.toSm hn ho)))))
   .exact D (Bl hx) (D (sI h) (D gF O))
  .have h:¬ (G.Zv x.1)[x.2]?=J X:=λh'=>by rw[sM (t?.mp h')]at h;exact tf h
   exact D (Bl hx) (D (sH h) (D (gY _) O))
 .rw[gy,ic]at O;refine cQ (cO (cC (cG H (cC (cG H (cH (Ii (hH.Zz O.le) hF (O.Zu 0 H) (N7 hn) (λx hx=>EW ho hx) λJ' Y' ļ hs' ul=>RL.ZC O λc7 s O=>sP (hK c7 (J (g3 (G.nm X)),J (Y c4),z) s ⟨J',p',r',O.sub (.cons_cons _ (mU _)),Y',ļ,ZP,λx hx=>?_,AC⟩))))))));refine Ot (λy hy=>hs' y ?_) ul ((((B.exp ZP).1).o0.iff x).mp hx);exact tW (B.from hr hg ZP hy) λd e1 e2 e3=>Bk.mpr (tC d e1 (Z1 _ e2) e3)
theorem Nq(hH:HX E cr G ca)(hF:G.ZU)(B:x4 G S)(hl:E a=J (f1 (xr G σ)))(ń:∀X∈σ,X<R G.ZH)(hw:xo S 0 σ=J t)(hr:S[t]?=J rn)
  (k:∀rC:V (M×M),rC.Nodup->(∀p∈rC,G.Ok p)->(∀x∈rn.aJ,x∈rC)->RL E K (rC.map pT)):DW [Y cr,Y a] E K:=by
 refine Li (cQ (cO (cC (cG H (cC (cV (cC (cW rD rD _ (cH ⟨gQ H,λc0 hc0=>cH ?_⟩)))))))));have O:=(sX.init E).new (o:=f1 ([(0,0)].map pT)) hc0;refine Ii (hH.Zz O.le) hF (O.Zu 0 H) (u5 _) (λp hp=>D (gJ.mp hp) ⟨hF.bx,gE _⟩) λrC hn ho hs hc=>RL.ZC O λc s O=>s9 B.aT λr0 np hI0=>?_
 refine dq (loc:=X7.ZA cr a) (z0:=(c,sD,sD,sD,sD)) (l:=a) (vs:=xr G σ) (λi z s=>Xz G S t σ E i z.1 s) (Z H) (λi z s I=>vL I.ex λrC p rn O ø=>O.le _ _ hl) ⟨rC,0,r0,O.sub (.cons_cons _ (mU _)),hn,ho,np,λx hx=>Ot (λy hy=>hs y (by rw[hI0]at hy;exact hy)) hc ((((B.exp np).1).o0.iff x).mp hx),hw⟩ (λi v z s K1 hv I ZW=>?_) λz s I=>sP ?_
 .unfold xr at hv;rw[gG]at hv;exact vp v (gR.mp hv) λX hX=>TS hH hF B hX (ń X (gz hX)) I λc z s I=>ZW .next _ _ (ti (c,z) H I)
 .refine C1 I λrC p r' O hn ho ZP Z1 AC=>?_
  rw[uR,l5]at AC;rw[(gv AC:p=t),hr]at ZP;obtain rfl:=gv ZP;exact cP (Z H) (k rC hn ho Z1 z.1 s O.le (O.fr 0 H) (O.Zu 0 H))
noncomputable abbrev ET:=V ((M×M)×sE×V M)
variable {T T' T0:ET}
noncomputable def TU(G:Gm)(k:M×M):LV:=f2 [g3 (G.nm k.1),f0 k.2]
noncomputable def Mx(G:Gm)(T:ET):V (LV×LV):=T.map λe=>(TU G e.1,Y e.2.1)
noncomputable def XA(T:ET):V (sE×LO):=T.map λe=>(e.2.1,f1 (nL e.2.2))
noncomputable def gT(T:ET)(k:M×M):V M:=match T.find? (λe=>decide (e.1=k)) with | some e=>e.2.2 | none=>[]
noncomputable def tot(T:ET):M:=(T.map λe=>R e.2.2).sum
noncomputable abbrev D6(G:Gm)(N:M)(T:ET):Prop:=(T.map (·.1)).Nodup/\(∀e∈T,G.aa<=e.1.1/\e.1.1<R G.ZH/\e.1.2<=N)/\∀e∈T,e.2.2.Nodup/\∀g∈e.2.2,e.1.2<=g/\g<=N
def D6.nd(h:D6 G N T):=h.1
def D6.ah(h:D6 G N T):=h.2.1
def D6.aD(h:D6 G N T):=h.2.2
theorem Mc{β:Type}{T:V ((M×M)×β)}{e:(M×M)×β}:∀{i:M},(T.map (·.1)).Nodup->T[i]?=J e->T.find? (λx=>decide (x.1=e.1))=J e:=by
 induction T with
 | nil=>exact λø h=>z9 h
 | cons x T ih=>
  intro i hn h
  by_cases q:x.1=e.1
  .refine D (kC (p:=λx:(M×M)×β=>decide (x.1=e.1)) (sM q)) ?_;cases i with
   | zero=>exact h
   | succ i=>exact absurd (gL.mpr (ti e (gz (show T[i]?=J e from h)) q.symm)) (iK.mp hn).1
  .refine D (jN (p:=λx:(M×M)×β=>decide (x.1=e.1)) λh=>q (sQ h)) ?_;cases i with
   | zero=>exact absurd (sJ (·.1) (gv h)) q
   | succ i=>exact ih (iK.mp hn).2 h
theorem E4(hn:(T.map (·.1)).Nodup)(h:T[i]?=J (p,a,w)):gT T p=w:=by
 unfold gT;exact D (show p=((p,a,w):(M×M)×sE×V M).1 from H) (D (Mc hn h) H)
theorem Kp(h:p∉T.map (·.1)):gT T p=[]:=by
 unfold gT;exact D (nJ.mpr λe he q=>h (gL.mpr (ti e he (by simpa using q)))) H
theorem Ji(hn:(T.map (·.1)).Nodup)(k:M×M):(∃(i:M) (a:sE),T[i]?=J (k,a,gT T k))\/(k∉T.map (·.1)/\gT T k=[]):=by
 by_cases h:k∈T.map (·.1)
 .obtain ⟨⟨k',a,l⟩,he,e⟩:=gL.mp h;refine D ((e:k'=k).symm) ?_;refine xE (ie he) λi hi=>?_
  exact .inl (KD i a (D (E4 hn hi) hi))
 .exact .inr ⟨h,Kp h⟩
theorem C0(h:T[i]?=J (p,a,w)):(T.set i (p,a,ts)).map (·.1)=T.map (·.1):=we h H
theorem V8(hn:(T.map (·.1)).Nodup)(h:T[i]?=J (p,a,w)):gT (T.set i (p,a,ts)) k'=if k'=p then ts else gT T k':=by
 by_cases e:k'=p
 .obtain rfl:=e.symm;exact D (sI H) (E4 (D (C0 h) hn) (by (rewrite[jx];exact D (sI H) (D (sI ((gB.mp h).1)) H))))
 .refine D (sH e) ?_
  rcases Ji hn k' with ⟨j,b,hj⟩ | ⟨h1,h2⟩
  .refine E4 (i:=j) (a:=b) (D (C0 h) hn) ?_;have:i≠j:=λe2=>by rw[e2,hj]at h;cases h;exact e H
   refine D (jx) (D (sH this) ?_);exact hj
  .exact D h2 (Kp (by exact D (C0 h) h1))
theorem Kq{l:V M}(hn:(T.map (·.1)).Nodup)(h:p∉T.map (·.1)):((T++[(p,a,l)]).map (·.1)).Nodup:=
 D gF (iP.mpr (uS hn (u5 _) (λx hx y hy e=>h (by rw[jc,gJ]at hy;exact(show x=p from e.trans hy)▸hx))))
theorem V9(hn:(T.map (·.1)).Nodup)(h:p∉T.map (·.1)):gT (T++[(p,a,[])]) k'=gT T k':=by
 rcases Ji hn k' with ⟨j,b,hj⟩ | ⟨h1,h2⟩
 .exact E4 (i:=j) (a:=b) (Kq (a:=a) (l:=[]) hn h) (by refine D (hV (gB.mp hj).1) ?_;exact hj)
 .refine D h2 ?_
  by_cases e:k'=p
  .refine D e ?_;exact E4 (i:=R T) (a:=a) (Kq (a:=a) (l:=[]) hn h) (by refine D (il (gC _)) (D (iI _) ?_);rfl)
  .exact Kp (by refine D gF (AU gP ?_);rintro (h | h);exact h1 h;exact e (gJ.mp h))
theorem Kr:∀{T:ET} {i:M},T[i]?=J (p,a,w)->tot (T.set i (p,a,w++[N]))=tot T+1
 | [],i,h=>by exact uH h
 | e::T,0,h=>by
  obtain rfl:=gv h;unfold tot;refine D List.set_cons_zero (D iN (D iN (D jX (D jX (?_:R (w++[N])+_=R w+_+1)))));exact D gK (D jU (gZ (tD [1] 0x25200050048000481 H) (tD [1] 0x1401200000948000481 H)))
 | e::T,i+1,h=>by
  have ih:=Kr (T:=T) (i:=i) h;unfold tot at ih ⊢;exact D List.set_cons_succ (D iN (D iN (D jX (D jX (D ih (gZ (tD [1] 0x25200000940400481 H) (tD [1] 0x25010000948000481 H)))))))
theorem TV:tot (T++[(p,a,[])])=tot T:=by
 unfold tot;exact D gF (D nY H)
theorem D6.set(h:D6 G N T)(hi:T[i]?=J (p,a,w))(hg:t∉w)(h1:p.2<=t)(h2:t<=N):D6 G N (T.set i (p,a,w++[t])):=by
 refine⟨by refine D (C0 hi) ?_;exact h.nd,λe he=>?_,λe he=>?_⟩
 .rcases lH he with he | rfl
  .exact h.ah e he
  .exact(h.ah (p,a,w) (gz hi))
 .rcases lH he with he | rfl
  .exact h.aD e he
  .refine xA (h.aD _ (gz hi)) λh3 h4=>⟨iP.mpr (uS h3 (u5 _) (λx hx y hy e=>hg (by rw[gJ]at hy;exact(e.trans hy)▸hx))),λg' wv=>?_⟩
   rcases gP.mp wv with wv | wv
   .exact h4 g' wv
   .exact D (gJ.mp wv) ⟨h1,h2⟩
theorem D6.app(h:D6 G N T)(hk:p∉T.map (·.1))(h1:G.aa<=p.1/\p.1<R G.ZH/\p.2<=N):D6 G N (T++[(p,a,[])]):=by
 refine⟨Kq h.nd hk,λe he=>?_,λe he=>?_⟩<;>rcases gP.mp he with he | he
 .exact h.ah e he
 .exact D (gJ.mp he) h1
 .exact h.aD e he
 .exact D (gJ.mp he) ⟨iU,λg hg=>by cases hg⟩
theorem D6.len(hF:G.ZU)(h:D6 G N T):R T<=5*(N+1):=by
 have:=tP (m:=(gN 5).flatMap λa=>(gN (N+1)).map λi=>(G.aa+a,i)) h.nd λk hk=>by
  exact vp k (gL.mp hk) λe he=>zY (h.ah e he) λh1 h2 h3=>l9.mpr (ti (e.1.1 - G.aa) (iM.mpr (Nat.sub_lt_left_of_lt_add h1 (ij h2 (gA hF.n (pj hF.Ý 5))))) (gL.mpr (ti e.1.2 (iM.mpr (tD [1] 0x4a0204a520402 H h3)) (ji (by refine(?_:G.aa+(e.1.1 - G.aa)=_);exact gZ (uy [] 0x6290012188500442 H (gO (tD [] 0x52048520402 H h1))) (uy [] 0x5200c12188500462 H (gO (tD [] 0x52048520402 H h1)))) H))))
 rw[gy,nX]at this;simp only[gy,iq,lE,pk]at this;exact this
theorem D6.tot(hF:G.ZU)(h:D6 G N T):tot T<=5*(N+1)*(N+1):=by
 refine gA ?_ (kA _ (h.len hF))
 have:∀e∈T,R e.2.2<=N+1:=λe he=>by
  have:=tP (m:=gN (N+1)) (h.aD e he).1 λg hg=>iM.mpr (lG ((h.aD e he).2 g hg).2)
  rw[iq]at this;exact this
 clear h
 induction T with
 | nil=>exact gE _
 | cons e T ih=>
  have h1:=ih λe he=>this e (gH _ he)
  unfold Mine.tot at h1 ⊢;exact D iN (D jX (D iu (D (ko _ _) (Dp [1] 0x270180520024004e02040628403 H h1 (this e gI)))))
noncomputable def Go(T:ET)(w:V M)(X i g:M):Prop:=g∈gT T (X,i)\/(w[i]?=J X/\g=i+1)
noncomputable def Re(T:ET)(w α:V M)(i j:M):Prop:=α.rec (motive:=λø=>M->Prop) (λi=>i=j) (λX ø ih i=>∃g,Go T w X i g/\ih g) i
theorem Re.nil:Re T w [] i i:=Eq.refl i
theorem Re.cons(h:Go T w X i t)(k:Re T w ts t j):Re T w (X::ts) i j:=⟨t,h,k⟩
noncomputable def WE(G:Gm)(T:ET)(w:V M)(i:M):Prop:=∀r,r<R G.ZF->∀j,Re T w (G.Zv r) i j->j∈gT T (G.ZE r,i)
noncomputable def X8(G:Gm)(T:ET)(i:M):Prop:=∀r,r<R G.ZF->(G.ZE r,i)∈T.map (·.1)
theorem Re.snoc:∀i,Re T w (ts++[sC]) i j->∃g,Re T w ts i g/\Go T w sC g j:=by
 induction ts with
 | nil=>exact λi h=>s9 h λg h1 h2=>ti i .nil ((h2:g=j)▸h1)
 | cons X ts ih=>exact λi h=>s9 h λg h1 h2=>s9 (ih g h2) λf h3 h4=>ti f (.cons h1 h3) h4
theorem Re.congr(h:∀k,gT T' k=gT T k)(r:Re T w ts i j):Re T' w ts i j:=by
 induction ts generalizing i with
 | nil=>exact r
 | cons X ts ih=>exact s9 r λg h1 h2=>.cons (h1.imp (λm=>D (h _) m) id) (ih h2)
theorem U4(h:D6 G N T)(hg:i∈gT T p):p.2<=i/\i<=N:=by
 rcases Ji h.nd p with ⟨j,b,hj⟩ | ⟨_,h2⟩
 .exact(h.aD _ (gz hj)).2 i hg
 .rw[h2]at hg;cases hg
theorem Re.frame(hT:D6 G N T')(h:∀X i,t<i->gT T' (X,i)=gT T (X,i))(r:Re T' w ts i j):t<i->Re T w ts i j:=by
 induction ts generalizing i with
 | nil=>exact λø=>r
 | cons X ts ih=>exact λhi=>s9 r λg h1 h2=>h1.elim (λh1=>.cons (.inl (tj (h _ _ hi) h1)) (ih h2 (ij hi (U4 hT h1).1))) λh1=>.cons (.inr h1) (ih h2 (D h1.2 (ja hi)))
theorem Re.ĭ(cl:∀i,i<=R w->WE G T w i)(d:DL G ts w0):∀pre post,w=pre++(w0++post)->Re T w ts (R pre) (R pre+R w0):=by
 refine d (λts w0=>∀pre post,w=pre++(w0++post)->Re T w ts (R pre) (R pre+R w0)) (λpre post ø=>.nil) (λX {ts w0} ih pre post e=>?_) λ{r ts w0 γ} hr ĕ Ä pre post e=>?_
 .have h1:=ih (pre++[X]) post (by (refine D e ?_;rewrite[gW]);rfl);rw[gK,jU]at h1;refine .cons (.inr ⟨?_,H⟩) (D iu (D (show R pre+(R w0+1)=R pre+1+R w0 by exact gZ (tD [1] 0x1401200000940400481 H) (tD [1] 0x25010050048000481 H)) h1));refine D e (D (il (gC _)) (D (iI _) ?_));rfl
 .have h2:=Ä (pre++γ) post (by rw[e,gW,gW]);rw[gK]at h2;refine .cons (.inl (cl (R pre) ?_ r hr _ (ĕ pre (w0++post) (by rw[e,gW])))) (by (refine D gK ?_;rewrite[<- ku]);exact h2);exact D e (D gK (jR ..))
theorem fS(cl:∀i,i<=R w->WE G T w i)(d:DL G [X] w)(Z0:w≠[X]):R w∈gT T (X,0):=by
 have h:=Re.ĭ cl d [] [] (by rewrite[gY];rfl);rw[m5,iB]at h;refine d.inv1.elim (λe=>(Z0 e).elim) λd=>tW d λr hr e d1=>?_
 .have h1:=Re.ĭ cl d1 [] [] (by rewrite[gY];rfl);rw[m5,iB]at h1;exact tj e (cl 0 (gE _) r hr _ h1)
theorem Ks:vG (Mx G T)=pH:=by
 unfold vG Mx;exact D nW (i9.mpr λø ø=>rfl)
theorem TX(hn:G.Nm)(h:p.1<R G.ZH)(h':k'.1<R G.ZH)(e:TU G p=TU G k'):p=k':=by
 injection e with e
 injection e with e1 e
 injection e with e2 _
 exact ji (hn.inj h h' (LV.str.inj e1)) (iQ (LV.int.inj e2))
theorem Kt(hn:G.Nm)(hk:k'.1<R G.ZH):∀{T:ET},(∀e∈T,e.1.1<R G.ZH)->v5 (Mx G T) (TU G k')=(T.find? λe=>decide (e.1=k')).map λe=>Y e.2.1
 | [],_=>rfl
 | e::T,h=>by
  have ih:=Kt hn hk λe he=>h e (gH _ he)
  unfold v5 Mx at ih ⊢;refine D iN ?_
  by_cases q:e.1=k'
  .refine D (kC (by exact D q (sM H))) (D (kC (p:=λe:(M×M)×sE×V M=>decide (e.1=k')) (sM q)) ?_);rfl
  .refine D (jN (by simpa using λe2=>q (TX hn (h e gI) hk e2))) (D (jN (p:=λe:(M×M)×sE×V M=>decide (e.1=k')) (by simpa using q)) ?_);exact ih
theorem Ou(hn:G.Nm)(h:D6 G N T)(hi:T[i]?=J (p,a,w)):v5 (Mx G T) (TU G p)=J (Y a):=
 D (Kt hn (h.ah _ (gz hi)).2.1 λe he=>(h.ah e he).2.1) (D (show p=((p,a,w):(M×M)×sE×V M).1 from H) (D (Mc h.nd hi) H))
theorem Ov(hn:G.Nm)(h:D6 G N T)(hk:p.1<R G.ZH)(hm:p∉T.map (·.1)):v5 (Mx G T) (TU G p)=sD:=by
 refine D (Kt hn hk λe he=>(h.ah e he).2.1) (D (nJ.mpr λe he q=>hm (gL.mpr (ti e he (by simpa using q)))) ?_);rfl
theorem TY:∀l:V M,(∀x∈l,x<i)->(∀x,l.count x<=2)->R l<=2*i:=by
 induction i with
 | zero=>exact λl h ø=>D (List.eq_nil_iff_forall_not_mem.mpr λx hx=>iF _ (h x hx)) (gE _)
 | succ i ih=>
  intro l h hc;exact Dp [2,1] 0x425000440900138406380811140230404 H (ih (l.filter λa=>decide ¬(a==i)=pH) (λx hx=>xA (iH.mp hx) λh1 h2=>Io (h x h1) λe=>sQ h2 (uP.mpr e)) λx=>gA (px.count_le x) (hc x)) ((List.length_eq_countP_add_countP (·==i)).trans (sJ (_ + ·) List.countP_eq_length_filter)) (hc i)
structure En where
 cr:sE
 bo:sE
 aV:sE
 af:M
variable {j4:En}
noncomputable def En.ZA(C:En)(b:bn)(y5 y6 y7 y8 y9 y10 y11 y12 pi:sF LV):uZ:=[J (Y C.cr),J (Y C.bo),J (Y C.aV),J (f0 C.af),J (ii b),y5,y6,y7,y8,y9,y10,y11,y12,pi]
noncomputable def AQ(G:Gm)(c2:sE)(T:ET):V (sE×LO):=(c2,f8 (Mx G T))::XA T
noncomputable abbrev IL(st:LH)(C:En)(G:Gm)(ca:M->sE)(w:V M):Prop:=HX st C.cr G ca/\G.ZU/\st C.bo=J (f1 (xr G w))/\(∀X∈w,X<R G.ZH)/\R w<=3321300/\C.af<=R w
def IL.ci(h:IL s j4 G ca w):=h.1
def IL.aq(h:IL s j4 G ca w):=h.2.1
def IL.hw(h:IL s j4 G ca w):=h.2.2.1
def IL.n(h:IL s j4 G ca w):=h.2.2.2.1
def IL.aT(h:IL s j4 G ca w):=h.2.2.2.2.1
def IL.af(h:IL s j4 G ca w):=h.2.2.2.2.2
noncomputable abbrev Ku(f N:M)(l:V M):Prop:=(∀x,l.count x<=2)/\∀x∈l,f<=x/\x<=N
def Ku.aE(h:Ku i N w):=h.1
def Ku.az(h:Ku i N w):=h.2
theorem Ku.len{l:V M}(h:Ku i N l):R l<=2*(N+1):=TY _ (λx hx=>lG (h.az x hx).2) h.aE
theorem Ij(h:w.Nodup)(x:M):w.count x<=1:=List.nodup_iff_count.mp h x
theorem Ku.ext(h:Ku i N w)(h':Ku i N ts):Ku i N (w++ts.filter λg=>!b8 (g∈w)):=by
 refine⟨λx=>?_,λx hx=>?_⟩
 .refine D l0 ?_
  by_cases q:x∈w
  .exact D (pz (l:=ts.filter _) λm=>by have:=(iH.mp m).2;rw[sM q]at this;exact ft this) (h.aE x)
  .exact D (pz q) (D (iB _) (gA (px.count_le x) (h'.aE x)))
 .rcases gP.mp hx with hx | hx
  .exact h.az x hx
  .exact h'.az x (iH.mp hx).1
theorem Kv{C:En}(h:T[i]?=J (p,a,w)):(a,f1 (nL w))∈pre++AQ G C.aV T:=gU _ (gH _ (gL.mpr (ti _ (gz h) H)))
theorem Wa(am:IL E j4 G ca w)(hT:D6 G (R w) T)(hY:sC<R G.ZH)(O:sX E s ([(X,f1 (nL w0)),(t,f1 (nL ts))]++AQ G j4.aV T))
  (k:∀Ë s',sX E s' ((Ë,f1 (nL (gT T (sC,N))))::([(X,f1 (nL w0)),(t,f1 (nL ts))]++AQ G j4.aV T))->bb (j4.ZA mf y10 y6 y7 (J (g3 (G.nm sC))) y9 (J (f0 N)) (J (Y Ë)) y12 pi) s' Kb) :
  qo (qp 11 (rz qO (pL (qV qU qZ (U 2) (pL (pN (pL (U 8) (pL (U 10) pK))) (pL (pM pK) pK))) pK))) bb (j4.ZA mf y10 y6 y7 (J (g3 (G.nm sC))) y9 (J (f0 N)) y11 y12 pi) s Kb:=by
 refine cQ (dU (cC (dA (cG H ⟨ef (O.Zu 2 H),cC (cW (Z H) (Z H) _ (cC (cV (cH ⟨gE _,λcd þ=>cH ?_⟩))))⟩))));have O:=O.new (o:=f1 []) þ;generalize ur s cd (f1 [])=s at O;refine(zi _ _ _ _ H (O.Zu 3 H:s j4.aV=J (f8 (Mx G T))) (.atoms Ks H) ?_)
 have hlen:R (gT T (sC,N))<=R w+1:=by
  rcases Ji hT.nd (sC,N) with ⟨i,a,hi⟩ | ⟨_,h2⟩
  .have:=tP (m:=gN (R w+1)) (hT.aD _ (gz hi)).1 λg hg=>iM.mpr (lG ((hT.aD _ (gz hi)).2 g hg).2)
   rw[iq]at this;exact this
  .exact D h2 (gE _)
 have fin:∀a,s a=J (f1 (nL (gT T (sC,N))))->pK (j4.ZA mf y10 y6 y7 (J (g3 (G.nm sC))) y9 (J (f0 N)) y11 y12 pi) s λxs s2=>qO (Y a::xs) s2 λv s1=>A3 bb Kb .next ((j4.ZA mf y10 y6 y7 (J (g3 (G.nm sC))) y9 (J (f0 N)) y11 y12 pi).set 11 (J v)) s1:=λa ha=>cH (eH ha (D (sU _) (D sS (tD [1,3321300,16777216] 0x412048109420004a020403 H hlen am.aT))) λc hc=>k c _ (O.tail.new hc))
 rcases Ji hT.nd (sC,N) with ⟨i,a,hi⟩ | ⟨h1,h2⟩
 .exact D (show f2 [g3 (G.nm sC),f0 N]=TU G (sC,N) from H) (D (Ou am.ci.nm hT hi) (fin a (O.tail.ZT _ (Kv hi)).1))
 .exact D (show f2 [g3 (G.nm sC),f0 N]=TU G (sC,N) from H) (D (Ov am.ci.nm hT hY h1) (fin cd (D h2 (O.Zu 0 H))))
theorem TZ(am:IL E j4 G ca w)(hT:D6 G (R w) T)(hY:sC<R G.ZH)(hg:j4.af<=r/\r<=R w)(hl:Ku j4.af (R w) w0)(O:sX E s ([(N,f1 (nL w0)),(m,f1 (nL ts))]++AQ G j4.aV T))
  (k:∀lt' y11 s',sX E s' ([(N,f1 (nL lt')),(m,f1 (nL ts))]++AQ G j4.aV T)->Ku j4.af (R w) lt'->(∀x∈w0,x∈lt')->(∀j,Go T w sC r j->j∈lt')->Kb .next (j4.ZA mf y10 y6 y7 (J (g3 (G.nm sC))) (J (Y N)) (J (f0 r)) y11 y12 pi) s') :
  ym (j4.ZA mf y10 y6 y7 (J (g3 (G.nm sC))) (J (Y N)) (J (f0 r)) y11 y12 pi) s Kb:=by
 refine Wa am hT hY O λË s O=>?_
 have wT:Ku j4.af (R w) (gT T (sC,r)++if w[r]?=J sC then [r+1] else []):=by
  have h1:(gT T (sC,r)).Nodup:=by
   rcases (Ji hT.nd (sC,r)) with ⟨i,a,hi⟩ | ⟨_,h2⟩
   .exact(hT.aD _ (gz hi)).1
   .exact D h2 iU
  refine⟨λx=>?_,λx hx=>?_⟩
  .refine D l0 ?_
   exact jE (Ij h1 x) (show(if w[r]?=J sC then [r+1] else []).count x<=1 by
    split
    .exact Ij (u5 _) x
    .exact gE _)
  .rcases gP.mp hx with hx | hx
   .have:=U4 hT hx;exact⟨gA hg.1 this.1,this.2⟩
   .split at hx
    .rename_i e
     have:=(gB.mp e).1;exact D (gJ.mp hx) ⟨lF hg.1,this⟩
    .cases hx
 have Id:∀j,Go T w sC r j->j∈gT T (sC,r)++if w[r]?=J sC then [r+1] else []:=λj hj=>by
  rcases hj with hj | ⟨h1,rfl⟩
  .exact gV _ hj
  .exact D (sI h1) (gU _ (iE _))
 have rest:∀s,sX E s ((Ë,f1 (nL (gT T (sC,r)++if w[r]?=J sC then [r+1] else [])))::([(N,f1 (nL w0)),(m,f1 (nL ts))]++AQ G j4.aV T))->xv (j4.ZA mf y10 y6 y7 (J (g3 (G.nm sC))) (J (Y N)) (J (f0 r)) (J (Y Ë)) y12 pi) s Kb:=by
  intro s O;generalize (gT T (sC,r)++if w[r]?=J sC then [r+1] else [])=gl at O wT Id;refine dD (dA (cG H ⟨dk (O.Zu 1 H),cC (F8 (xs:=gl) (f:=λg=>f0 (g:M)) (h:=λg=>f0 (g:M)) (λg=>!b8 (g∈w0)) H (Z H) (O.Zu 0 H) (by exact tD [3321300,2,1,16777215] 0x1848120825004440800128803 H am.aT wT.len) (λi g y hgi=>⟨rL (Z H) (Z H) (eD (O.Zu 1 H)),Z H⟩) λcf hcf=>cH ?_)⟩));have O:=O.new (o:=f1 (nL (gl.filter λg=>!b8 (g∈w0)))) hcf;have hx:=hl.ext wT;refine(vN _ _ (nL w0) (nL (gl.filter λg=>!b8 (g∈w0))) H (O.Zu 2 H) (.inr (ti _ H (O.Zu 0 H))) (by exact D (sU _) (D (sU _) (tj gK (tD [3321300,2,1,16777216] 0x1848120825004440800128803 H am.aT hx.len)))) (?_));have O:=O.set 2 H (f1 (nL w0++nL (gl.filter λg=>!b8 (g∈w0))));rw[yd]at O;refine k _ (J (Y Ë)) _ (by exact D (yd _ _) O.tail.tail) hx (λx hx=>gV _ hx) λj hj=>?_
  by_cases q:j∈w0
  .exact gV _ q
  .exact gU _ (iH.mpr ⟨Id j hj,by exact D (sT q) H⟩)
 refine cL (t:=b8 (w[r]?=J sC)) ?_ (λq=>?_) λq=>sP (rest s ?_)
 .by_cases ZY:r<R w
  .have hX:=gM ZY;generalize w[r]=X at hX;refine D hX (D (show decide (J X=J sC)=b8 (X=sC) from t6.mpr ⟨λh=>gv h,λh=>by exact D h H⟩) (rP (by refine tj (sM (g8.mpr (show r<R (xr G w) by exact D uR ZY))) ?_;exact rL (Z H) (rJ (cE (Z H) cF) (sa (O.le _ _ am.hw))) rX) (rQ (rL (rE (Z H) (Z H) (r5 (O.le _ _ am.hw) (Np hX))) (Z H) (Op.z? am.ci.nm (am.n X (gz hX)) hY)))))
  .refine D (iz (by exact tD [] 0x520484284a2 H ZY)) (D (sT λh=>by exact uH h) ?_);refine rO (s:=Zt) (t:=pH) (by exact tj (sT (show ¬ ((r:M):al)<R (xr G w) from λh=>ZY (by rw[uR]at h;exact g8.mp h))) (rL (Z H) (rJ (cE (Z H) cF) (sa (O.le _ _ am.hw))) rX)) λq=>by exact ft q
 .have q:=sQ q;rw[sI q]at rest wT;refine cU O 0 H (v:=f0 (r+1:M)) (Z H) (rE (Z H) rD rU) ?_ λs O=>rest s ?_
  .have:=wT.len;rw[gK]at this;exact D (sU _) (uy [3321300,2,1,16777215] 0x612048209401118800800128803 H am.aT this)
  .rw[<- wQ];exact O
 .exact D (sH (sW q)) (D (gY _) O)
theorem T3(am:IL E j4 G ca w)(hT:D6 G (R w) T)(hY:sC<R G.ZH)(O:sX E s ((i,f1 (nL w0))::AQ G j4.aV T))(wT:Ku j4.af (R w) w0)(hc:∀g,Re T w ts j4.af g->g∈w0)
  (k:∀IN TT y9 y10 y11 s',sX E s' ((IN,f1 (nL TT))::AQ G j4.aV T)->Ku j4.af (R w) TT->(∀g,Re T w (ts++[sC]) j4.af g->g∈TT)->Kb .next (j4.ZA mf y7 y6 (J (Y IN)) (J (g3 (G.nm sC))) y9 y10 y11 y12 pi) s') :
  wM (j4.ZA mf y7 y6 (J (Y i)) (J (g3 (G.nm sC))) y9 y10 y11 y12 pi) s Kb:=by
 refine dC O λc9 s O=>dq (loc:=λz:sF LV×sF LV=>j4.ZA mf y7 y6 (J (Y i)) (J (g3 (G.nm sC))) (J (Y c9)) z.1 z.2 y12 pi) (z0:=(y10,y11)) (l:=i) (vs:=nL w0) (λu ø s=>∃lt,sX E s ([(c9,f1 (nL lt)),(i,f1 (nL w0))]++AQ G j4.aV T)/\Ku j4.af (R w) lt/\∀(v:M) g0,v<u->w0[v]?=J g0->∀j,Go T w sC g0 j->j∈lt) (Z H) (λu z s rC=>rC.elim λlt rC=>rC.1.Zu 1 H) (tC ([]) O ⟨λx=>gE _,λx hx=>by cases hx⟩ (λv g0 hv=>absurd hv (iF _))) (λu v z s K1 hv rC ZW=>?_) λz s rC=>sP ?_
 .exact Bt v (wa hv) λg0 hg=>tW rC λlt O hl hd=>TZ am hT hY (wT.az g0 (gz hg)) hl O λlt' y11 s' O Ĺ Z1 Id=>ZW .next _ _ (xy (J (f0 g0),y11) H lt' O Ĺ (λv g1 Ń Ó j hj=>by
   by_cases e:v=u
   .obtain rfl:=e.symm;obtain rfl:=gv (hg.symm.trans Ó);exact Id j hj
   .exact Z1 j (hd v g1 (Io Ń e) Ó j hj)))
 .refine tW rC λlt O hl hd=>?_
  rw[sU]at hd;refine cI (Z H) (sP (k c9 lt _ _ _ s (O.sub (.cons_cons _ (.cons _ (mR _)))) hl λg hg=>(s9 hg.snoc λg0 h1 h2=>(xE (ie (hc g0 h1)) λv hv=>?_))));exact hd v g0 (gB.mp hv).1 hv g h2
theorem RA(am:IL E j4 G ca w)(hT:D6 G (R w) T)(hr:r<R G.ZF)(O:sX E s ((i,f1 (nL [j4.af]))::AQ G j4.aV T))
  (k:∀IN TT y8 y9 y10 y11 s',sX E s' ((IN,f1 (nL TT))::AQ G j4.aV T)->Ku j4.af (R w) TT->(∀g,Re T w (G.Zv r) j4.af g->g∈TT)->bb (j4.ZA mf y7 (J (Y (ca r))) (J (Y IN)) y8 y9 y10 y11 y12 pi) s' Kb) :
  qo (qI (qJ (U 6)) (qF 8) wM) bb (j4.ZA mf y7 (J (Y (ca r))) (J (Y i)) y8 y9 y10 y11 y12 pi) s Kb:=by
 refine dq (loc:=λz:sE×sF LV×sF LV×sF LV×sF LV=>j4.ZA mf y7 (J (Y (ca r))) (J (Y z.1)) z.2.1 z.2.2.1 z.2.2.2.1 z.2.2.2.2 y12 pi) (z0:=(i,y8,y9,y10,y11)) (l:=ca r) (vs:=xr G (G.Zv r)) (λj z s=>∃sp,sX E s ((z.1,f1 (nL sp))::AQ G j4.aV T)/\Ku j4.af (R w) sp/\∀g,Re T w ((G.Zv r).take j) j4.af g->g∈sp) (Z H) (λj z s rC=>rC.elim λsp rC=>rC.1.le _ _ (am.ci.ao r hr)) (tC ([j4.af]) O ⟨λx=>lF (Ij (u5 _) x),λx hx=>D (gJ.mp hx) ⟨gC _,am.af⟩⟩ (λg hg=>by cases hg;exact iE _)) (λj v z s K1 hv rC ZW=>?_) λz s rC=>sP ?_
 .unfold xr at hv;rw[gG]at hv;exact vp v (gR.mp hv) λsC hY=>tW rC λsp O wT hc=>T3 am hT (am.aq.ZT hr hY) O wT hc λIN TT y9 y10 y11 s' O Ω ul=>ZW .next _ _ (xy (IN,J (g3 (G.nm sC)),y9,y10,y11) H TT O Ω (λg hg=>ul g (tj (tF hY) hg)))
 .refine tW rC λsp O wT hc=>?_
  rw[uR,ic]at hc;exact k _ sp _ _ _ _ s O wT hc
theorem RB(am:IL E j4 G ca w)(hT:D6 G (R w) T)(hX:G.aa<=X/\X<R G.ZH)(O:sX E s ((i,f1 (nL ts))::AQ G j4.aV T))
  (k:∀(T1:ET) (e:M) (a:sE) (l:V M) s',D6 G (R w) T1->(∀k,gT T1 k=gT T k)->T1[e]?=J ((X,j4.af),a,l)->(∀k∈T.map (·.1),k∈T1.map (·.1))->tot T1=tot T->sX E s' ((i,f1 (nL ts))::AQ G j4.aV T1)->bb (j4.ZA mf (J (g3 (G.nm X))) y6 y7 y8 y9 y10 y11 (J (Y a)) pi) s' Kb) :
  qo (qp 12 (qV qU q8 (U 2) (pL (pN (pL (U 5) (pL (U 3) pK))) (pL (pM pK) pK)))) bb (j4.ZA mf (J (g3 (G.nm X))) y6 y7 y8 y9 y10 y11 y12 pi) s Kb:=by
 refine cQ (dA (cG H ⟨ef (O.Zu 1 H),cC (cW (Z H) (Z H) _ (cC (cV (cH ⟨gE _,λcd þ=>cH ?_⟩))))⟩));have O:=O.new (o:=f1 []) þ;generalize ur s cd (f1 [])=s at O;refine(vN _ ([.inr _,.inl _]) _ _ H (O.Zu 2 H:s j4.aV=J (f8 (Mx G T))) Ks (by unfold Mx;exact D (gy _) (D sS (tD [3321300,5,1,16777216] 0x1848120825004440800129403 H am.aT (hT.len am.aq)))) ?_)
 by_cases hm:(X,j4.af)∈T.map (·.1)
 .obtain ⟨⟨k',a,l⟩,he,ek⟩:=gL.mp hm;subst (ek:k'=(X,j4.af));refine xE (ie he) λe P'=>?_
  refine⟨λv q=>?_,λq=>(by have q:=(Ou am.ci.nm hT P').symm.trans q;exact E9 q)⟩;obtain rfl:Y a=v:=gv ((Ou am.ci.nm hT P').symm.trans q);exact k T e a l s hT (λø=>rfl) P' (λø h=>h) H O.tail
 .refine⟨λv q=>(by exact uH ((Ov am.ci.nm hT hX.2 hm).symm.trans q)),λø=>?_⟩;have Z6:(T++[((X,j4.af),cd,[])])[R T]?=J ((X,j4.af),cd,[]):=by refine D (il (gC _)) (D (iI _) ?_);rfl
  refine k (T++[((X,j4.af),cd,[])]) (R T) cd [] _ (hT.app hm (uS hX.1 hX.2 am.af)) (λk=>V9 hT.nd hm) Z6 (λk hk=>D gF (gV _ hk)) TV (jD ?_ ((O.set 2 H (f8 (Mx G T++[(TU G (X,j4.af),Y cd)]))).perm (km _ _).symm))
  congr 1
  unfold AQ Mx XA;exact D gF (D gF H)
noncomputable abbrev XB(st:LH)(C:En)(G:Gm)(N c7 X:M)(sp:V M)(T1:ET)(b0:bn)(e a u:M)(b:bn)(s:LH):Prop:=∃T l,sX st s ((c7,f1 (nL sp))::AQ G C.aV T)/\D6 G N T/\T[e]?=J ((X,C.af),a,l)/\(∀k,k≠(X,C.af)->gT T k=gT T1 k)/\T.map (·.1)=T1.map (·.1)/\(∀(v:M) g,v<u->sp[v]?=J g->g∈l)/\(b=pH->b0=pH\/tot T1<tot T)/\(b=Zt->b0=Zt/\l=gT T1 (X,C.af))/\tot T1<=tot T
noncomputable def XB.ex(h:XB E j4 G N i X w T mf t m j sr s):=h
theorem T4(am:IL E j4 G ca w)(wT:Ku j4.af (R w) ts)(hg:ts[N]?=J j)(rC:XB E j4 G (R w) r X ts T0 mf i t N sr s)
  (hK:∀sr s',XB E j4 G (R w) r X ts T0 mf i t (N+1) sr s'->Kb .next (j4.ZA sr y12 y6 y7 y8 y9 y10 y11 (J (Y t)) (J (f0 j))) s'):zQ (j4.ZA sr y12 y6 y7 y8 y9 y10 y11 (J (Y t)) (J (f0 j))) s Kb:=by
 obtain ⟨T,l,O,hT,he,ā,ą,hd,h1,h2,h3⟩:=rC;refine cL (rL (Z H) (Z H) (eD ((O.ZT _ (Kv (pre:=[(r,f1 (nL ts))]) he)).1:s t=J (f1 (nL l))))) (λq=>?_) λq=>sP (hK sr s ⟨T,l,O,hT,he,ā,ą,λv g' hv wv=>?_,h1,h2,h3⟩)
 .have hm:=hT.aD _ (gz he)
  have hlen:R l<=R w+1:=by
   have:=tP (m:=gN (R w+1)) hm.1 λj hg=>iM.mpr (lG (hm.2 j hg).2)
   rw[iq]at this;exact this
  have hi:((r,f1 (nL ts))::AQ G j4.aV T)[i+2]?=J (t,f1 (nL l)):=by
   refine D (gG) (D he ?_);rfl
  refine cU O (i+2) hi (Z H) (Z H) (D (sU _) (tD [3321300,1,16777215] 0x4120481094040800128403 H am.aT hlen)) λs O=>cI rD (sP (sP (hK pH s ⟨T.set i ((X,j4.af),t,l++[j]),l++[j],?_,hT.set he (by simpa using q) (wT.az j (gz hg)).1 (wT.az j (gz hg)).2,?_,λk hk=>?_,by refine D (C0 he) ?_;exact ą,λv g' hv wv=>?_,λø=>.inr (D (Kr he) (tD [1] 0x4a0204a520402 H h3)),λh=>(tf h),by exact D (Kr he) (tD [1] 0x4a02048520402 H h3)⟩)))
  .refine jD ?_ O
   congr 1
   refine(?_:(r,f1 (nL ts))::(j4.aV,f8 (Mx G T))::(XA T).set i (t,f1 (nL l++[f0 j]))=(r,f1 (nL ts))::(j4.aV,f8 (Mx G (T.set i ((X,j4.af),t,l++[j]))))::XA (T.set i ((X,j4.af),t,l++[j])));have e1:Mx G (T.set i ((X,j4.af),t,l++[j]))=Mx G T:=we he H;refine D e1 ?_;unfold XA;exact D mP (D (wQ _ _) H)
  .exact D (jx) (D (sI H) (D (sI (gB.mp he).1) H))
  .exact D (V8 hT.nd he) (D (sH hk) (ā k hk))
  .by_cases e2:v=N
   .obtain rfl:=e2.symm;refine D (gv (hg.symm.trans wv)) ?_;exact gU _ (iE _)
   .exact gV _ (hd v g' (Io hv e2) wv)
 .by_cases e2:v=N
  .obtain rfl:=e2.symm;refine tj (gv (hg.symm.trans wv)) ?_;exact(by simpa using (by simpa using q):j∈l)
  .exact hd v g' (Io hv e2) wv
noncomputable abbrev Nr(C:En)(G:Gm)(w:V M)(T0 T:ET)(r:M)(b:bn):Prop:=D6 G (R w) T/\(∀X i,C.af<i->gT T (X,i)=gT T0 (X,i))/\(∀r',r'<r->(G.ZE r',C.af)∈T.map (·.1))/\(∀k∈T0.map (·.1),k∈T.map (·.1))/\(b=pH->tot T0<tot T)/\(b=Zt->(∀k,gT T k=gT T0 k)/\∀r',r'<r->∀j,Re T w (G.Zv r') C.af j->j∈gT T (G.ZE r',C.af))/\tot T0<=tot T
def Nr.ok(h:Nr j4 G w T0 T r mf):=h.1
def Nr.fr(h:Nr j4 G w T0 T r mf):=h.2.1
def Nr.has(h:Nr j4 G w T0 T r mf):=h.2.2.1
def Nr.bT(h:Nr j4 G w T0 T r mf):=h.2.2.2.1
def Nr.t1{C:En}(h:Nr C G w T0 T r mf):=h.2.2.2.2.1
def Nr.t0(h:Nr j4 G w T0 T r mf):=h.2.2.2.2.2.1
def Nr.le(h:Nr j4 G w T0 T r mf):=h.2.2.2.2.2.2
noncomputable abbrev XC(st:LH)(C:En)(G:Gm)(w:V M)(T0:ET)(r:M)(b:bn)(s:LH):Prop:=∃T,sX st s (AQ G C.aV T)/\Nr C G w T0 T r b
noncomputable def XC.ex(h:XC E j4 G w T0 r mf s):=h
noncomputable abbrev XD(st:LH)(C:En)(G:Gm)(w:V M)(m:M)(b:bn)(s:LH):Prop:=∃T,sX st s (AQ G C.aV T)/\D6 G (R w) T/\(∀i,C.af<i->i<=R w->WE G T w i/\X8 G T i)/\(b=Zt->WE G T w C.af/\X8 G T C.af)/\m=2*(5*(R w+1)*(R w+1) - tot T)+if b then 1 else 0
noncomputable def XD.ex(h:XD E j4 G w m mf s):=h
theorem U5{f:M->LV}(h:(rM t f)[i]?=J v):i<t/\v=f i:=by
 have hi:=(gB.mp h).1;rw[uJ]at hi;rw[ux hi]at h;exact⟨hi,(gv h).symm⟩
noncomputable abbrev Z9:=sF LV×sF LV×sF LV×sF LV×sF LV×sF LV×sF LV×sF LV×sF LV
noncomputable def En.lz(C:En)(z:bn×Z9):uZ:=C.ZA z.1 z.2.1 z.2.2.1 z.2.2.2.1 z.2.2.2.2.1 z.2.2.2.2.2.1 z.2.2.2.2.2.2.1 z.2.2.2.2.2.2.2.1 z.2.2.2.2.2.2.2.2.1 z.2.2.2.2.2.2.2.2.2
theorem T5(am:IL E j4 G ca w)(hr:r<R G.ZF)(rC:XC E j4 G w T0 r mf s)
  (hK:∀mf z s',XC E j4 G w T0 (r+1) mf s'->Kb .next (j4.lz (mf,z)) s'):Bf (j4.ZA mf (J (g3 (G.nm (G.ZE r)))) (J (Y (ca r))) y7 y8 y9 y10 y11 y12 pi) s Kb:=by
 refine s9 rC λT O rC=>?_
 refine cQ (cV (cC (cG H (cH ⟨gQ H,λc7 Ű=>sP ?_⟩))));have O:=O.new (o:=f1 (nL [j4.af])) Ű;refine RA am rC.ok hr O λIN sp y8 y9 y10 y11 s O wT hc=>RB am rC.ok ⟨am.aq.ė r hr,am.aq.lf r hr⟩ O λT1 e a l s C! Ó he s? ŝ O=>dq (loc:=λz:bn×sF LV=>j4.ZA z.1 (J (g3 (G.nm (G.ZE r)))) (J (Y (ca r))) (J (Y IN)) y8 y9 y10 y11 (J (Y a)) z.2) (z0:=(mf,pi)) (l:=IN) (vs:=nL sp) (λu z s=>XB E j4 G (R w) IN (G.ZE r) sp T1 mf e a u z.1 s) (Z H) (λu z s rC=>rC.ex.elim λT rC=>rC.elim λl rC=>rC.1.Zu 0 H) ⟨T1,l,O,C!,he,λk ø=>rfl,H,λv g hv=>absurd hv (iF _),λh=>.inl h,λh=>⟨h,(E4 C!.nd he).symm⟩,gC _⟩ (λu v z s K1 hv rC ZW=>?_) λz s J2=>sP ?_
 .exact Bt v (wa hv) λg hg=>T4 am wT hg rC λmf s rC=>ZW .next _ _ (ti (mf,J (f0 g)) H rC)
 .obtain ⟨T2,l2,O,Ð,F?,ā,ą,hd,h1,h2,h3⟩:=J2;rw[sU]at hd;refine hK z.1 (J (g3 (G.nm (G.ZE r))),J (Y (ca r)),J (Y IN),y8,y9,y10,y11,J (Y a),z.2) s ⟨T2,O.tail,Ð,λX i hi=>?_,λr' ZP=>?_,λk hk=>?_,λhb=>?_,λhb=>?_,?_⟩
  .exact D (ā _ λh=>iV _ ((show i=j4.af from sJ j3 h)▸hi)) (D (Ó _) (rC.fr X i hi))
  .refine D ą ?_
   by_cases e2:r'=r
   .refine tj e2.symm ?_;exact gL.mpr (ti _ (gz he) H)
   .exact s? _ (rC.has r' (Io ZP e2))
  .exact D ą (s? k (rC.bT k hk))
  .rcases h1 hb with h | h
   .have:=rC.t1 h;exact Dp [] 0x5204a7204253040730464 H ŝ h3 this
   .have:=rC.le;exact Dp [] 0x5204a7204053042730464 H ŝ h this
  .refine xA (h2 hb) λhb0 ż=>xA (rC.t0 hb0) λj1 j2=>?_
   have ĩ:∀k,gT T2 k=gT T k:=λk=>by
    by_cases e2:k=(G.ZE r,j4.af)
    .subst e2;exact D (E4 Ð.nd F?) (D ż (D (Ó _) H))
    .exact D (ā k e2) (D (Ó _) H)
   refine⟨λk=>D (ĩ _) (D (j1 _) H),λr' ZP j hj=>?_⟩
   by_cases e2:r'=r
   .obtain rfl:=e2.symm;refine xE (ie (hc j (Re.congr (T':=T) (λk=>(ĩ k).symm) hj))) λv hv=>?_
    exact D (E4 Ð.nd F?) (hd v j (gB.mp hv).1 hv)
   .exact D (ĩ _) (j2 r' (Io ZP e2) j (Re.congr (T':=T) (λk=>(ĩ k).symm) hj))
  .exact Dp [] 0x520487204053040730464 H ŝ h3 rC.le
theorem RC(am:IL E j4 G ca w)(rC:XD E j4 G w m pH s){z:Z9}
  (hK:∀mf z s',(∃m',m'<m/\XD E j4 G w m' mf s')->Kb .next (j4.lz (mf,z)) s'):CN (j4.lz (pH,z)) s Kb:=by
 obtain ⟨T0,O,hT,lq,_,hm⟩:=rC;refine cI (v:=ii Zt) rD (sP (cJ (dM (loc:=j4.lz) (z0:=(Zt,z)) (l:=j4.cr) (λr z s=>XC E j4 G w T0 r z.1 s) (Z H) (λr z s rC=>rC.ex.elim λT rC=>rC.1.le _ _ am.ci.aB) ⟨T0,O,hT,λø ø ø=>rfl,λr hr=>absurd hr (iF _),λø h=>h,λh=>(ft h),λø=>⟨λø=>rfl,λr hr=>absurd hr (iF _)⟩,gC _⟩ (λr v z s K1 hv rC ZW=>?_) λz s rC=>sP ?_)))
 ·(refine xA (U5 hv) λhr e9=>?_;refine D e9 ?_)
  exact(w1 _ _ H (T5 am hr rC λmf z s rC=>ZW .next _ _ (ti (mf,z) H rC)))
 .refine s9 rC λT O rC=>?_
  rw[uJ]at rC;refine hK z.1 z.2 s (ti _ ?_ ⟨T,O,rC.ok,λi hi Ô=>⟨λr hr j hj=>?_,λr hr=>rC.bT _ ((lq i hi Ô).2 r hr)⟩,λhb=>⟨λr hr=>(rC.t0 hb).2 r hr,λr hr=>rC.has r hr⟩,H⟩)
  .refine D hm ?_;cases hb:z.1 with
   | true=>have:=rC.t1 hb;simp only[Aa];exact Mq [2,1] 0x4250080109002004a73140219d040084830824 H this (gO (tD [] 0x42848428402 H (rC.ok.tot am.aq))) (gO (tD [] 0x52048520402 H (hT.tot am.aq)))
   | false=>have:=rC.le;simp only[Aa,oI,if_false];exact Mq [2,0,1] 0x8250080109002004a73140219d040084830804 H this (gO (tD [] 0x42848428402 H (rC.ok.tot am.aq))) (gO (tD [] 0x52048520402 H (hT.tot am.aq)))
  .exact D (rC.fr _ _ hi) ((lq i hi Ô).1 r hr j (hj.frame rC.ok rC.fr hi))
noncomputable def Y8.ZA(cr lr c2:sE)(z:sF LV×sF LV×Z9):uZ:=[J (Y cr),J (Y lr),J (Y c2),z.1,z.2.1,z.2.2.1,z.2.2.2.1,z.2.2.2.2.1,z.2.2.2.2.2.1,z.2.2.2.2.2.2.1,z.2.2.2.2.2.2.2.1,z.2.2.2.2.2.2.2.2.1,z.2.2.2.2.2.2.2.2.2.1,z.2.2.2.2.2.2.2.2.2.2]
theorem Pz(hH:HX E cr G ca)(hF:G.ZU)(hl:E a=J (f1 (xr G w)))(hw:∀X∈w,X<R G.ZH)(hz:R w<=3321300)
  (k:∀c2 T s',sX E s' (AQ G c2 T)->D6 G (R w) T->(∀i,i<=R w->WE G T w i/\X8 G T i)->K (Y c2) s'):FN [Y cr,Y a] E K:=by
 refine MS (eu (sX.init E) λc2 s O=>(dE ((tj (D uR H:(R (xr G w):al)=(R w:M)) (rJ (cE (Z H) cF) (sa (O.le _ _ hl))):Ev (rz qN (pL (U 1) pK)) (Y8.ZA cr a c2 (sD,sD,sD,sD,sD,sD,sD,sD,sD,sD,sD)) s (f0 (R w:M))) _ (rF rD rW _ (rF rD rW _ (wU _ H rfl rfl (uS (ig _) (lW (jf.mpr hz) (by decide)) (D (jl _) ?_))))))));refine Qu (λk=>zI (Y8.ZA cr a c2) λø s=>∃T,sX E s (AQ G c2 T)/\D6 G (R w) T/\∀i,R w<i+k->i<=R w->WE G T w i/\X8 G T i) (xy (sD,sD,sD,sD,sD,sD,sD,sD,sD,sD,sD) H ([]) O ⟨iU,λe he=>uG he,λe he=>by cases he⟩ (λi h1 h2=>(KP [0] 0x21420004a020422 H h1 h2).elim)) (λk ρ s K' hk rC hK=>?_) λρ s rC=>?_
 ·(refine s9 rC λz e9 r9=>tW r9 λT O hT lq=>?_;refine D e9 ?_)
  refine cI (v:=ii pH) rD (sP (cJ (L.Do (loc:=En.lz ⟨cr,a,c2,R w - k⟩) (z0:=(pH,z.2.2)) (λm z s=>XD E ⟨cr,a,c2,R w - k⟩ G w m z.1 s) (m0:=2*(5*(R w+1)*(R w+1) - tot T)+1) ⟨T,O,hT,λi hi Ô=>lq i (Dp [] 0x628081290c70046538423 H (hi:R w - k<i) (gO (tD [] 0x42848428402 H hk))) Ô,λh=>(tf h),H⟩ λm z s rC=>?_)));obtain ⟨b,z⟩:=z;refine(tC b (rS (Z H)) (λhb Kb G'=>?_) (λhb=>?_))
  .subst hb;exact RC (⟨hH,hF,hl,hw,hz,kE _ _⟩ : IL E ⟨cr,a,c2,R w - k⟩ G ca w) rC λb z s h=>G' .next _ _ (ti (b,z) H h)
  .subst hb;obtain ⟨T,O,hT,h1,h2,_⟩:=rC;refine hK .next _ _ (xy (J (f0 ((R w - k:M):al)),J (ii Zt),z) H T O hT (λi hi Ô=>?_))
   by_cases e:i=R w - k
   .exact D e (h2 H)
   .exact h1 i (kr (n8.mpr (mv hi)) λh=>e h.symm) Ô
 ·(refine s9 rC λz e9 r9=>tW r9 λT O hT lq=>?_;refine D e9 ?_)
  exact sP (cP (Z H) (k c2 T s O hT λi hi=>lq i (tD [1] 0x1200a0204a1 H) hi))
theorem E5(hH:HX E cr G ca)(hF:G.ZU)(hl:E g=J (f1 (xr G w)))(hw:∀X∈w,X<R G.ZH)(hz:R w<=3321300)(hX:X<R G.ZH)(d:DL G [X] w)(k:∀s',Le E s'->K (ii pH) s'):ze [Y cr,g3 (G.nm X),Y g] E K:=by
 refine Iz (dG (L.KT (cG H (cV (cC (cG H (cH ⟨gQ H,λc hc=>?_⟩)))))));have O:=(sX.init E).new (o:=f1 (xr G [X])) hc;change sX E (ur E c (f1 [g3 (G.nm X)])) _ at O;generalize ur E c (f1 [g3 (G.nm X)])=s at O;refine eR hH.nm (O.le _ _ hl) (O.Zu 0 H) hw (λsC hY=>D (gJ.mp hY) hX) _ (Wr (λø=>cP rD (k s O.le)) λq=>?_);have Z0:w≠[X]:=λe=>by rw[sM e]at q;exact tf q
 have hXl:∃r,r<R G.ZF/\G.ZE r=X:=d.inv1.elim (λe=>(Z0 e).elim) λd=>tW d λr hr e ø=>ti r hr e
 refine cJ (cZ (dB ?_));refine rJ (v:=f0 (R w:M)) (cE (Z H) cF) (tj (by exact D uR H:(R (xr G w):al)=(R w:M)) (sa (O.le _ _ hl))) _ (cO (cC (cG H (cC (cG H (cH (Pz (hH.Zz O.le) hF (O.le _ _ hl) hw hz λc2 T s' O' hT lq=>(cW (Z H) rD _ ?_))))))))
 (refine s9 hXl λr hr e9=>?_;subst e9)
 obtain ⟨⟨k',a,l⟩,he,ek⟩:=gL.mp ((lq 0 (gE _)).2 r hr);subst (ek:k'=(G.ZE r,0));obtain ⟨e,P'⟩:=ie he;refine L.ĝ (O'.Zu 0 H) Ks H (Ou hH.nm hT P') ?_;have ă:=fS (λi hi=>(lq i hi).1) d Z0;rw[E4 hT.nd P']at ă;unfold ql;simp only[((O'.ZT _ (Kv (C:=⟨0,0,c2,0⟩) (pre:=[]) P')).1)];exact(uS H (CT l) (D (lK _) (D (show decide (f0 (R w:M)∈nL l)=pH from sM (M9.mpr ă)) (k s' (O.le.trans O'.le)))))
theorem Kw{α:Type}{xs:V α}{f h:α->LV}(on:hU t sD++ld.map (λi=>(ρ[i]?).join)=ρ0)(he:Ev e ρ s (Y g))(hl:s g=J (f1 (xs.map f)))(hz:R xs<=2 ^ 24 - 1)
  (step:∀(i:M) a x,xs[i]?=J a->Ev mo ((ρ0.set k x).set k (J (f a))) s (h a)) (kk:∀c,s c=sD->KE (Y c) (ur s c (f1 (xs.map h)))):rg (qJ e) t ld (qF k) pV mo ρ s KE:=
 F8 (λø=>pH) on he hl hz (λi a x hi=>⟨rR,step i a x hi⟩) (D (m6.mpr λø ø=>rfl) kk)
namespace Op
theorem eqSame{neg:bn}{l:V LV}(ha:s a=J (f1 l))(hb:s g=J (f1 l))(hf:uT 3 l=pH):Op (qk neg (Y a) (Y g)) s (ii (neg != pH)):=λK k=>by
 unfold qk;simp only[ha,hb];exact⟨.inr ⟨hf,hf⟩,k⟩
end Op
open _root_.Mine.Op renaming eqSame->sA
theorem Md(h:GX s g G x)(hp:G.Ok p)(ht:(G.Zv p.1)[p.2]?=J t):Op (CK [Y g,pT p,f0 t]) s (ii pH):=λK k=>by
 refine vL (h.rule hp.ao) λra rd ZM ha ol=>JT (dK (v:=pT p) (Z H) H (sP (cJ (cI (rH (rE (rH (Z H) (rT h.hg H)) (Z H) (r5 h.Z2 (vl ha))) (rT ol H)) (sP ?_)))))
 refine cP (Ev.w_ (by refine tj (sM (g8.mpr (show p.2<R (nL (G.Zv p.1)) by exact D (sU _) ((gB.mp ht).1)))) ?_;exact rE (Z H) (rJ (cE (Z H) cF) sb) rX) (by exact tj (sM (rfl:(t:al)=t)) (rE (rE (Z H) (Z H) (r8 (xk ht))) (Z H) rZ))) k
noncomputable abbrev Me(G:Gm)(S:V SR)(q:Cf)(I am:V (M×M)):Prop:=I=F9 G q.rs++am/\R8 G S q am/\(∀p∈I,G.Ok p)/\R q.rs<=20/\R am<=1/\I.filter (λp=>decide (p∈F9 G q.rs))=F9 G q.rs
def Me.ai(h:Me G S q I rC):=h.1
def Me.bw(h:Me G S q I rC):=h.2.1
def Me.ok(h:Me G S q I rC):=h.2.2.1
def Me.n(h:Me G S q I rC):=h.2.2.2.1
def Me.le(h:Me G S q I rC):=h.2.2.2.2.1
def Me.fl(h:Me G S q I rC):=h.2.2.2.2.2
theorem Me.of(B:x4 G S)(ZQ:zW G S be q)(hE:R8 G S q I):Me G S q (F9 G q.rs++I) I:=by
 refine tW ZQ.ao λr hr pc ø=>?_
 have Ex:=(B.exp hr).1
 have ZY:∀p∈I,G.Ok p/\p.2<R (G.Zv p.1):=λp hp=>by
  cases pu:q.aU with
  | false=>rw[hE.bq pu]at hp;cases hp
  | true=>
   (refine vS (hE.aU pu) λp' r' e9 ZP wS ht=>?_;subst e9)
   obtain rfl:=gv (hr.symm.trans ZP);rw[gJ]at hp;subst hp;exact⟨Ex.o0.ok p wS,(gB.mp ht).1⟩
 refine⟨H,hE,λp hp=>?_,gA (tP ZQ.nd λk hk=>(pc k hk).1) Ex.aX.1,?_,?_⟩
 .rcases gP.mp hp with hp | hp
  .exact vp p (gL.mp hp) λk hk=>⟨(Ex.o0.ok _ ((Ex.rs k).mp (pc k hk).1).2).ao,gC _⟩
  .exact(ZY p hp).1
 .cases pu:q.aU with
  | false=>exact D (hE.bq pu) (gE _)
  | true=>(refine vX (hE.aU pu) λp r e9 ø=>?_;refine D e9 ?_);exact gC _
 .rw[jS,m6.mpr λp hp=>sM hp,m7.mpr λp hp h=>?_,gY];refine s9 (gL.mp (sQ h)) λk hk e=>?_
  have:=(ZY p hp).2;rw[<- e]at this;exact iV _ this
theorem Wb(h:e ρ E K):L.Æ (λt s=>if t then e ρ s K else K (ii Zt) s) (ii (Zt != pH)) E:=h
theorem GU(h:GX E g G x)(hF:G.ZU)(B:x4 G S)(hX:VX E l d g a da nu ad Cl G S be)(hq:E fm=J (q.aM c2))(ZQ:zW G S be q)(hE:EX G S F E q c el)(k:∀s',Le E s'->K (ii pH) s'):yQ [Y l,Y fm,Y c] E K:=by
 obtain ⟨hl,he,am,hCE,zn⟩:=hE;have T:=Me.of B ZQ hCE;rw[<- zn]at T
 have hlen:R el<=21:=by
  have h1:=sJ jr T.ai;unfold F9 at h1;rw[gy,gK,gy]at h1;exact uy [20,1,21] 0x412048109820004a1018a020444 H h1 T.n T.le
 have Z6:∀(i:M) e,el[i]?=J e->E e.ae=J (e.aM G q.aF)/\G.Ok e.ag:=λi e hi=>⟨(he e (gz hi)).1,T.ok _ (iD (gz hi))⟩
 refine FK (cI (rH (Z H) (rT hX.ar H)) (sP (cJ (cQ (Kw (xs:=el) (f:=λe=>Y e.ae) (h:=λe=>pT e.ag) H (Z H) hl (tY [21,16777215] 0x4240900120402 H hlen) (λi e y hi=>?_) λc4 Ů=>sP ?_)))))
 .exact xA (Z6 i e hi) λh1 h2=>cW (rK (Z H) (cK h.hg) (cE (rH (Z H) (rT h1 H)) cF) (xY h h2)) (rK (Z H) (cK h.hg) (cE (rH (Z H) (rT h1 H)) cF) (CQ h h2))
 have O:=(sX.init E).new (o:=f1 ((el.map (·.ag)).map pT)) Ů;refine D (show(el.map λe=>pT e.ag)=(el.map (·.ag)).map pT by exact D iS H) ?_;refine cQ (Rd (vs:=nL q.rs) H (rH (Z H) (rT (O.le _ _ hq) H)) (by refine D (sU _) ?_;have:=T.n;exact tY [20,16777215] 0x4240900120402 H this) (λj=>pT (q.rs.getD j 0,R (G.Zv (q.rs.getD j 0)))) (λj w y hw=>?_) λc5 ů=>sP ?_)
 .refine Bt w (wa hw) λk' Tm=>vL ((h.Zz O.le).rule ((T.ok (k',R (G.Zv k')) (D T.ai (gV _ (iD (gz Tm))))).ao:k'<R G.ZF)) λra rd ZM ha ol=>D (show q.rs.getD j 0=k' by refine D (iJ) (D Tm ?_);rfl) ?_
  exact cW (v:=f0 (R (G.Zv k'):M)) (Z H) (tj (sU (G.Zv k')) (rJ (cE (rH (rE (rH (Z H) (rT (h.Zz O.le).hg H)) (Z H) (r5 (h.Zz O.le).Z2 (vl ha))) (rT ol H)) cF) sb))
 have e5:rM (R (nL q.rs)) (λj=>pT (q.rs.getD j 0,R (G.Zv (q.rs.getD j 0))))=(F9 G q.rs).map pT:=by
  refine D (sU _) (D (Nh (f:=λk=>pT (k,R (G.Zv k))) λj k' Tm=>by exact D (show q.rs.getD j 0=k' by refine D (iJ) (D Tm ?_);rfl) H) ?_);exact D iS H
 refine D e5 ?_;have O:=O.new (o:=f1 ((F9 G q.rs).map pT)) ů;refine dG (L.KT (Kw (xs:=el) (f:=λe=>Y e.ae) (h:=λø=>f0 q.aF) H (Z H) (O.le _ _ hl) (tY [21,16777215] 0x4240900120402 H hlen) (λi e y hi=>rH (Z H) (rT (O.le _ _ (Z6 i e hi).1) H)) λc6 No=>?_));have O:=O.new (o:=f1 (el.map λø=>f0 q.aF)) No;have e6:(R (CY el):al)=(R el:M):=by unfold CY;exact D (gy _) H
 refine eh (n:=R el) O (rH (v:=f0 q.aF) (Z H) (rT (O.le _ _ hq) H)) (λs' hle=>tj e6 (rJ (cE (Z H) cF) (sa (hle _ _ (O.le _ _ hl))))) (tY [21,16777216] 0x4240900120402 H hlen) λc7 s O=>?_
 have h7:=O.Zu 0 H;rw[<- lE]at h7;refine sA (O.Zu 1 H) h7 ?_ _ (Ho (sP ?_))
 .exact D (show(el.map λø=>f0 q.aF)=nL (el.map λø=>q.aF) by unfold nL;exact D iS H) (CT _)
 have O:=O.tail.tail;refine dG (L.KT (F8 (xs:=el) (f:=λe=>Y e.ae) (h:=λe=>Y e.ae) (λø=>Zt) H (Z H) (O.le _ _ hl) (tY [21,16777215] 0x4240900120402 H hlen) (λi e y hi=>⟨?_,Z H⟩) λc6 No=>?_))
 .have ew:=VT (t:=e.ay) B (hX.Zz O.le).ax (s9 B.aT λr hr ø=>(gB.mp hr).1:0<R S);rw[((he e (gz hi)).2.aH)]at ew;have:=rL (rK (cl:=383) (e:=L.Zx 696 1 (U 2)) (es:=pL (pG (f0 0)) (pL (L.Zx 556 0 (U 0)) pK)) (ρ:=(m8 [sD,J (Y fm),J (Y l)] 0 y).set 0 (J (Y e.ae))) (rH (Z H) (rT (hX.Zz O.le).ar H)) (cK (hX.Zz O.le).ax.ar) (cE rD (cE (rH (Z H) (rT (O.le _ _ (Z6 i e hi).1) H)) cF)) ew) (rH (cl:=746) (i:=0) (e:=U 1) (v:=f0 q.st) (Z H) (rT (O.le _ _ hq) H)) r4;rw[sM (rfl:((q.st:M):al)=q.st)]at this;exact this
 refine D (m7.mpr λø ø h=>lh h) ?_;have O:=O.new (o:=f1 []) No;refine(?_:pM pK _ (ur s c6 (f1 [])) _);generalize ur s c6 (f1 [])=s at O;refine⟨gE _,λc7 Ű=>?_⟩;have O:=O.new (o:=f1 []) Ű;refine sA (O.Zu 1 H) (O.Zu 0 H) H _ (Ho (sP ?_));have O:=O.tail.tail;generalize ur s c7 (f1 [])=s at O;refine cQ (F8 (xs:=el.map (·.ag)) (f:=pT) (h:=pT) (λp=>decide (p∈F9 G q.rs)) H (Z H) (O.Zu 1 H:s c4=J (f1 ((el.map (·.ag)).map pT))) (D (gy _) (tY [21,16777215] 0x4240900120402 H hlen)) (λi p y hi=>⟨?_,Z H⟩) λc6 No=>sP ?_)
 .have:=rL (e:=U 0) (f:=U 1) (ρ:=(m8 [sD,J (Y c5)] 0 y).set 0 (J (pT p))) (Z H) (Z H) (Op.Ņ (neg:=Zt) (p:=p) (O.Zu 0 H));rw[lK]at this;exact this
 refine D T.fl ?_;have O:=O.new (o:=f1 ((F9 G q.rs).map pT)) No;rw[T.ai]at O;have lq:R (F9 G q.rs)=R q.rs:=gy ..;have z!:∀ρ s,ρ[6]?=J (J (Y c6))->s c6=J (f1 ((F9 G q.rs).map pT))->Ev (rz qN (pL (U 6) pK)) ρ s (f0 (R q.rs:M)):=λρ s on h6=>tj (D (gy _) (D lq H):(R ((F9 G q.rs).map pT):al)=(R q.rs:M)) (rJ (cE (Z on) cF) (sa h6))
 have į:R ((F9 G q.rs++am).map pT)=R q.rs+R am:=D (gy _) (D gK (D lq H));refine cQ (dX O (Z H) (O.Zu 2 H) (z! _ _ H (O.Zu 0 H)) rD (D į (D sS (tD [20,1,16777216] 0x4129001204250800120403 H T.n T.le))) Gb H λc7 s O=>sP ?_);rw[į,iO (jR ..),gF,List.drop_left' (D (gy _) (D lq H)),jT (by exact D (gy _) (uy [] 0x520484300c500462 H (gO (tD [] 0x10a028481 H))))]at O;refine dG (L.KT (dX O (Z H) (O.Zu 3 H) rD (z! _ _ H (O.Zu 1 H)) (tj gF (D į (D sS (tD [20,1,16777216] 0x4129001204250800120403 H T.n T.le)))) H CZ λc8 s O=>?_));rw[<- gF,į,iO (jR ..),gF,jm,lL,List.take_left' (D (gy _) (D lq H))]at O;refine cG H (sA (O.Zu 0 H) (O.Zu 2 H) (E3 _) _ (Ho (sP ?_)));have O:=O.tail;refine dG (L.KT (cG H (cG H (sA (O.Zu 1 H) (O.Zu 2 H) (E3 _) _ (Ho (sP ?_))))));cases pu:q.aU with
 | true=>
  (refine vS (T.bw.aU pu) λp r e9 hr wS ht=>?_;subst e9)
  refine cL (t:=Zt) (rL (rH (v:=g3 (IJ q.aU)) (Z H) (rT (O.le _ _ hq) H)) rD ?_) (λq=>ft q) λø=>sP ?_
  .exact D pu (λK k=>(uS (by decide +kernel) (by decide +kernel) (by exact D (sT (show g3 (IJ pH)≠g3 "reduce/reduce" from λh=>absurd (LV.str.inj h) (by decide))) k)))
  .refine cP (Ev.w_ (tj (sM (rfl:(R ([p].map pT):al)=1)) (rE (rJ (cE (Z H) cF) (sa (O.Zu 0 H))) rD rZ)) (rI (cE (Z H) (cE (rE (Z H) rD (r5 (n:=0) (v:=pT p) (O.Zu 0 H) H)) (cE (rH (v:=f0 q.aF) (Z H) (rT (O.le _ _ hq) H)) cF))) (Md (h.Zz O.le) (T.ok p (D T.ai (gU _ (iE _)))) ht))) (k s O.le)
 | false=>
  have hE0:=T.bw.bq pu;subst hE0;refine cL (t:=pH) (rL (rH (v:=g3 (IJ q.aU)) (Z H) (rT (O.le _ _ hq) H)) rD ?_) (λø=>?_) λq=>tf q
  .exact D pu (λK k=>(uS (by decide +kernel) (by decide +kernel) (by exact D (sM (show g3 (IJ Zt)=g3 "reduce/reduce" from H)) k)))
  .refine cZ (dB (cG H (cV (cH ⟨gE _,λc8 W1=>?_⟩))));refine sA ((O.new (o:=f1 []) W1).Zu 1 H) ((O.new (o:=f1 []) W1).Zu 0 H) H _ (Wb ((by refine tj (sM (D (gy _) (D lq (D (ZQ.two pu) H)):(R ((F9 G q.rs).map pT):al)=2)) ?_;exact rE (rJ (cE (Z H) cF) (sa ((O.new (o:=f1 []) W1).Zu 3 H))) rD rZ:Ev (pI (qk Zt) (rz qN (pL (U 5) pK)) (pG (f0 2))) _ _ (ii pH)) _ (k _ (O.new (o:=f1 []) W1).le)))
theorem DL.term(hF:G.ZU)(hX:X<G.aa)(h:DL G [X] w):w=[X]:=by
 rcases h.inv1 with h | ⟨r,hr,e,_⟩
 .exact h
 .exact(OH [] 0x6284043044520423 H hX e (hF.ė r hr)).elim
noncomputable def RD(G:Gm)(X:M):Prop:=3<=X/\X<R G.ZH/\X≠G.aa
theorem DL.good(hF:G.ZU)(h:DL G w ts):(∀X∈w,RD G X)->∀X∈ts,RD G X:=
 h (λw ts=>(∀X∈w,RD G X)->∀X∈ts,RD G X) (λh=>h) (λX ø ø ih h sC hY=>(gX.mp hY).elim (λe=>D e (h _ gI)) λhY=>ih (λbv hZ=>h bv (gH _ hZ)) sC hY) λ{r w ts γ} hr ĕ Ä h sC hY=>by
  have np:r≠0:=λe=>(h _ gI).2.2 (D e hF.bN)
  rcases gP.mp hY with hY | hY
  .exact ĕ (λbv hZ=>(uS ((hF.Ü r hr np bv hZ).1) (hF.rt r hr bv hZ) ((hF.Ü r hr np bv hZ).2))) sC hY
  .exact Ä (λbv hZ=>h bv (gH _ hZ)) sC hY
theorem Gm.ZU.é(hF:G.ZU):G.aa+1<R G.ZH:=hF.rt 0 hF.bx _ (D hF.t0 gI)
theorem DL.top(hF:G.ZU)(h:DL G [G.aa] w):w=[G.aa]\/∃ts,w=ts++[0]/\DL G [G.aa+1] ts/\∀X∈ts,RD G X:=by
 rcases h.inv1 with h | ⟨r,hr,e,h⟩
 .exact .inl h
 .have np:r=0:=Classical.byContradiction λq=>hF.lf0 r hr q e
  subst np;rw[hF.t0]at h
  (refine t8 (DL.split (α:=[G.aa+1]) (β:=[0]) h) λŊ h! e9 h1 h2=>?_;refine D e9 ?_)
  exact D (h2.term hF (by exact tY [3,0] 0x10210948008402 H hF.Ý)) (.inr (tC Ŋ H h1 (h1.good hF λsC hY=>(D (gJ.mp hY) (uS (by exact tY [3,1] 0x21200010908008402 H hF.Ý) hF.é (by exact tY [1] 0x2002400441 H))))))
noncomputable abbrev PA(G:Gm)(t:M)(p:M×M)(s u nw β:V M):Prop:=s=nw++(G.Zv p.1).take p.2/\DL G [G.aa] (nw++G.ZE p.1::β)/\DL G [G.aa] (s++t::u)/\(((G.Zv p.1)[p.2]?=sD/\β=t::u)\/((G.Zv p.1)[p.2]?=J t/\u=(G.Zv p.1).drop (p.2+1)++β))
def PA.bG(h:PA G t p w ts w0 σ):=h.1
def PA.d1(h:PA G t p w ts w0 σ):=h.2.1
def PA.d2(h:PA G t p w ts w0 σ):=h.2.2.1
def PA.ah(h:PA G t p w ts w0 σ):=h.2.2.2
theorem Mv.frm(hF:G.ZU)(Wp:G3 G F)(ht:q.aF<G.aa)(hp:G.Ok iy.ag)(h:Mv G S F q iy)(hk:(G.Zv iy.ag.1)[iy.ag.2]?=sD\/(G.Zv iy.ag.1)[iy.ag.2]?=J q.aF):∃nw β,PA G q.aF iy.ag iy.ay iy.aL nw β:=by
 (refine t8 h.ex λnw ρ hs hd r9=>xw r9 λα sC β δ e1 Ix hY e2 r9=>xA r9 λø ø=>?_)
 rcases hk with hk | hk
 .have hle:=jg.mp hk;rw[lZ hle,mq]at e1
  have h3:DL G ρ (q.aF::iy.aL):=by
   exact D e1 (D e2 ((DL.ŕ λa ha=>(Ix a ha).1).append (hY.append (su G β))))
  refine(KD nw (q.aF::iy.aL) ⟨hs,(hd.trans ((su G nw).append (DL.keep h3))),?_,.inl ⟨hk,H⟩⟩);have:=(hd.trans ((su G nw).append (DL.keep h3))).trans ((λγ=>DL.mid (sz hp.ao)) _)
  (refine D hs (D (jT hle) ?_);rewrite[gW]);exact this
 .rw[jk ((gB.mp hk).1),(gB.mp hk).2,mh]at e1
  have hα0:α=[]:=by
   cases α with
   | nil=>rfl
   | cons a α=>
    injection e1 with e3 _
    have:=(Ix a gI).2;rw[<- e3,Wp.tm _ ht,mY]at this;exact tf this
  subst hα0;injection e1 with e3 e4
  subst e3;have d?:=hY.term hF ht;injection d? with _ d?
  subst d?;rw[mq]at e2;refine(KD nw ρ ⟨hs,hd,?_,.inr ⟨hk,by exact D e2 (tj e4 H)⟩⟩);have:=hd.trans ((λγ=>DL.mid (sz hp.ao)) ρ)
  (refine D hs (D e2 (tj e4 ?_));rewrite[gW])
  have e5:=kR iy.ag.2 (G.Zv iy.ag.1);rw[jk ((gB.mp hk).1),(gB.mp hk).2]at e5;rw[<- e5,gW]at this;exact this
noncomputable def Wc.ZA(g cr cq ea:sE)(p:M×M)(l:ap)(r:sE)(y8 y9 y10 y11 y12 pi:sF LV):uZ:=[J (Y g),J (Y cr),J (Y cq),J (Y ea),J (f0 p.1),J (f0 p.2),J (g3 l),J (Y r),y8,y9,y10,y11,y12,pi]
theorem eE(h:mc ρ s KB):pU mc pW ρ s KB:=by
 refine(?_:mc ρ s λt s1=>if t=pH then KB pH s1 else KB Zt s1);exact D (show(λt s1=>if t=pH then KB pH s1 else KB Zt s1)=KB from funext λt=>funext λs1=>by cases t<;>rfl) h
theorem fQ{f h:LE}{i j k:al}(h1:Ev e ρ s (f0 i))(h2:Ev f ρ s (f0 j))(h3:Ev h ρ s (f0 k))(hij:i<j):EvB (rB e f h) ρ s (b8 (j<k)):=λK kk=>h1 _ (h2 _ (tU _ _ H rfl (D (sI hij) (h3 _ (ti _ H kk)))))
theorem Kx{l:V M}(h:GX s g G x)(on:ρ[0]?=J (J (Y g)))(he:Ev e ρ s (f2 (nL l)))(hl:∀X∈l,X<R G.ZH)(hz:R l<=10000000)(kk:∀c,s c=sD->KE (Y c) (ur s c (f1 (xr G l)))):rg (qJ e) 1 [0] (qF 0) pV (pI qi (L.Zx 169 0 (U 1)) (U 0)) ρ s KE:=
 Kl (xs:=l) (f:=λX=>f0 (X:M)) (h:=λX=>g3 (G.nm X)) (ρ0:=[sD,J (Y g)]) (λø=>pH) (by refine(?_:[sD,(ρ[0]?).join]=_);exact D on H) he (tY [10000000,16777215] 0x4240900120402 H hz) (λi X y hi=>⟨rR,rE (rH (Z H) (rT h.hg H)) (Z H) (r5 (n:=X) h.KF (by refine D (gG) (D (ey (hl X (gz hi))) ?_);rfl))⟩) (D (m6.mpr λø ø=>rfl) kk)
theorem gh(h:G.Nm)(hX:X<R G.ZH)(hY:sC<R G.ZH):Op (qk pH (g3 (G.nm X)) (g3 (G.nm sC))) s (ii (!b8 (X=sC))):=λK k=>
 (uS (h.str hX) (h.str hY) (by
  exact D (n4 _) (D (show decide (g3 (G.nm X)=g3 (G.nm sC))=b8 (X=sC) from t6.mpr ⟨λe=>h.inj hX hY (LV.str.inj e),λe=>D e H⟩) (k))))
theorem DL.top_lt(hF:G.ZU)(h:DL G [G.aa] w):∀X∈w,X<R G.ZH:=λX hX=>by
 rcases h.top hF with rfl | ⟨γ,rfl,_,h2⟩
 .exact D (gJ.mp hX) (tD [1] 0x290252802400422 H hF.é)
 .rcases gP.mp hX with hX | hX
  .exact(h2 X hX).2.1
  .exact D (gJ.mp hX) (tD [1,0] 0x4084252002500422 H hF.é)
theorem Ow(h:GX E g G x)(hF:G.ZU)(hH:HX E cr G ca)(he:E iy.ae=J (iy.aM G t))(tz:PA G t iy.ag iy.ay iy.aL ts w0)(ht:t<G.aa)(hs:R iy.ay<=41000)(hu:R iy.aL<=3280200)(hle:Le E s)(C':s a=J (f1 (xr G (ts++G.ZE iy.ag.1::w0))))
  (k:∀s',Le E s'->K (ii pH) s'):yo (Wc.ZA g cr c iy.ae iy.ag nl d y8 y9 y10 (J (Y a)) y12 sD) s (tB K):=by
 have hlen:R (ts++G.ZE iy.ag.1::w0)<=3321300:=by
  have h3:=sJ jr tz.bG;rw[gK]at h3 ⊢;refine D iu ?_
  have h4:R w0<=R iy.aL+1:=by
   rcases tz.ah with ⟨_,h5⟩ | ⟨_,h5⟩
   .exact D h5 (D iu (gC _))
   .have:=sJ jr h5;rw[gK]at this;exact uy [1] 0x128081210c028462 H this
  exact Mq [41000,3280200,1,3321300] 0x61104a020024104e028408200c1184270800130405 H hs hu h3 h4
 refine dG (eF (fj (cO (cC (cG H (cC (dh (cC (cG H (cH (tj hH.nm.ac (E5 (hH.Zz hle) hF C' (tz.d1.top_lt hF) hlen (Nat.lt_of_succ_lt hF.é) tz.d1 λs1 Tk=>Vd (Cb (sP ?_))))))))))))))
 rcases tz.d2.top hF with e1 | ⟨γ,e1,hd,hg⟩
 .have h0:t∈iy.ay++t::iy.aL:=gU _ gI;rw[e1]at h0;have:=gJ.mp h0;exact(KP [] 0x52046520422 H ht this).elim
 refine cQ (cT (cG H ⟨cK ((hle.trans Tk) _ _ he),cC (cG H (cH (M4 (h.Zz (hle.trans Tk)) hF ((hle.trans Tk) _ _ he) (tD [41000,3280200,9000000] 0x4129001204250800120403 H hs hu) (λX hX=>?_) λw s2 Z7 θ Đ c?=>sP ?_)))⟩))
 .rw[show iy.ay++[t]++iy.aL=iy.ay++t::iy.aL by rw[gW];rfl,e1]at hX
  rcases gP.mp hX with hX | hX
  .exact .inr (hg X hX)
  .exact .inl (gJ.mp hX)
 have Z7:=(hle.trans Tk).trans Z7
 have Đ:DL G [G.aa+1] w:=by
  rw[show iy.ay++[t]++iy.aL=iy.ay++t::iy.aL by rw[gW];rfl,e1,jS,m6.mpr λX hX=>?_]at Đ
  .have:[0].filter (λX=>decide (X≠0))=[]:=H;rw[this,gY]at Đ;exact hd.trans Đ
  .have:=(hg X hX).1;exact sM (tY [3,0] 0x4240888008402 H this)
 have đ:∀X∈w,X<R G.ZH:=λX hX=>ij (c? X hX).2 hF.aa
 refine dG (eS (eF (cG H (ti _ H (Cb (eE (L.KT (Kl (xs:=w) (f:=λX=>f0 (X:M)) (h:=λX=>f0 (X:M)) (λø=>Zt) H (Z H) (uy [41000,3280200,1,16777215] 0x309024104c500081004260800128404 H hs hu θ) (λi X y hi=>⟨?_,Z H⟩) λc1 M'=>?_))))))))
 .have:=rN (fQ (e:=pG (f0 2)) (f:=U 0) (h:=L.Zx 169 1 (U 1)) (ρ:=(m8 [sD,J (Y g)] 0 y).set 0 (J (f0 (X:M)))) (i:=2) (j:=X) (k:=G.aa) rD (Z H) (rH (Z H) (rT (h.Zz Z7).hg H)) (kD g8 (c? X (gz hi)).1));rw[sM (g8.mpr (c? X (gz hi)).2)]at this;exact this
 refine D (m7.mpr λø ø h=>lh h) ?_;have O:=(sX.init s2).new (o:=f1 []) M';refine⟨gE _,λc2 wP=>?_⟩;have O:=O.new (o:=f1 []) wP;refine sA (O.Zu 1 H) (O.Zu 0 H) H _ (Ho (sP ?_));have O:=O.tail.tail;refine cZ (cO (cC (cG H (cC (dh (cC (Kx (h.Zz (Z7.trans O.le)) H (Z H) đ (uy [41000,3280200,1,10000000] 0x309024104c500081004260800128404 H hs hu θ) λc3 Ñ=>cH ?_)))))));have r?:=Z7.trans (O.new (o:=f1 (xr G w)) Ñ).le;exact tj hH.nm.ay (E5 (hH.Zz r?) hF ((O.new (o:=f1 (xr G w)) Ñ).Zu 0 H) đ (uy [41000,3280200,1,3321300] 0x309024104c500081004260800128404 H hs hu θ) hF.é Đ λs5 agv=>k s5 (r?.trans agv))
theorem eI(O:sX E s pre)(ha:s a=J (f1 vs))(hb:s g=J (f1 ys))(hz:R vs+R ys<=th)(k:∀c s',sX E s' ((c,f1 (vs++ys))::pre)->KE (Y c) s'):pZ (Y a) (Y g) s KE:=
 (tq _ _ _ H ha hb hz (λc hc=>k c _ (O.new hc)))
theorem dW(O:sX E s pre)(he:Ev e ρ s (Y c))(hl:s c=J (f1 (xr G w)))(h1:Ev mo ρ s b)(h2:Ev ma ρ s v)(hz:R w<=10000000)(ha:Jw b (R w)=J i)(hb:Jx v (R w)=J j)(k:∀c' s',sX E s' ((c',f1 (xr G ((w.drop i).take (j - i))))::pre)->KE (Y c') s'):qj e mo ma ρ s KE:=
 dX O he hl h1 h2 (D uR (D sS (tY [10000000,16777216] 0x4240900120402 H hz))) (D uR ha) (D uR hb) λc' s' O=>k c' s' (by rw[Ma,Mb]at O;exact O)
theorem eo(he:Ev e ρ s (Y c))(hl:s c=J (f1 (xr G w))):Ev (rz qN (pL e pK)) ρ s (f0 (R w:M)):=
 tj (uR (G:=G)) (rJ (cE he cF) (sa hl))
theorem T6(h:GX E g G x)(hF:G.ZU)(hH:HX E cr G ca)(he:E iy.ae=J (iy.aM G t))(hp:G.Ok iy.ag)(tz:PA G t iy.ag iy.ay iy.aL w ts)(ht:t<G.aa)(hs:R iy.ay<=41000)(hu:R iy.aL<=3280200)(ń:R w<=41000)
  (h9:E a=J (f1 (xr G (t::iy.aL)))) (C':E d=J (f1 (xr G (w++[G.ZE iy.ag.1])))) (TE:∀X∈iy.aL,X<R G.ZH) (k:∀s',Le E s'->K (ii pH) s'):yY (Wc.ZA g cr l iy.ae iy.ag nl (ca iy.ag.1) y8 (J (Y a)) y10 (J (Y d)) sD sD) E (tB K):=by
 have O:=sX.init E;refine cL (rL (Z H) (eo (Z H) (hH.ao iy.ag.1 hp.ao)) rZ) (λq=>?_) λq=>?_
 .have q:iy.ag.2=R (G.Zv iy.ag.1):=iQ (sQ q)
  rcases tz.ah with ⟨_,rfl⟩ | ⟨h1,_⟩
  .refine dB (cG H (cG H (eI O C' h9 (by refine D uR (D uR (D gK (D iu (D sS (?_:_+1+(R iy.aL+1)<=_)))));exact tD [3280200,41000,1,16777216] 0x184412804120001204240800128403 H hu ń) λc s O=>sP (sP ?_))));refine Ow h hF hH he tz ht hs hu O.le (O.Zu 0 H |>.trans ?_) k
   (refine D Ko ?_;rewrite[gW]);rfl
  .have:=(gB.mp h1).1;exact(KP [] 0x52042520462 H q this).elim
 .have q:iy.ag.2≠R (G.Zv iy.ag.1):=λh=>sW q (sJ jz h)
  rcases tz.ah with ⟨h1,_⟩ | ⟨h1,č⟩
  .exact absurd (gZ hp.au (jg.mp h1)) q
  .have hm:R ((G.Zv iy.ag.1).drop (iy.ag.2+1))<=3:=D je (uy [3,1] 0x48121421300800880128403 H (hF.au iy.ag.1) (gO (tD [1] 0x200250048428422 H ((gB.mp h1).1))));refine dW O (Z H) (hH.ao iy.ag.1 hp.ao) (rE (v:=f0 (iy.ag.2+1:M)) (Z H) rD rU) rD (tY [3,10000000] 0x4240900120402 H (hF.au iy.ag.1)) Gb H λð s O=>sP ?_
   rw[iO ((gB.mp h1).1),jT (D je (gC _))]at O;have Z1:∀X∈(G.Zv iy.ag.1).drop (iy.ag.2+1),X<R G.ZH:=λX hX=>(hF.rt iy.ag.1 hp.ao) X (mn hX)
   generalize (G.Zv iy.ag.1).drop (iy.ag.2+1)=bi at O č hm Z1
   have e1:EvB (pX (qk pH) (pI qi (U 9) (pG (f0 0))) (pI qi (U 7) (U 5))) (Wc.ZA g cr l iy.ae iy.ag nl (ca iy.ag.1) y8 (J (Y a)) y10 (J (Y d)) (J (Y ð)) sD) s Zt:=by
    have:=rL (rE (e:=U 9) (f:=pG (f0 0)) (ρ:=Wc.ZA g cr l iy.ae iy.ag nl (ca iy.ag.1) y8 (J (Y a)) y10 (J (Y d)) (J (Y ð)) sD) (Z H) rD (r5 (n:=0) (O.le _ _ h9) H)) (rE (e:=U 7) (f:=U 5) (Z H) (Z H) (r5 (O.le _ _ (hH.ao iy.ag.1 hp.ao)) (Np h1))) (gh hH.nm (ij ht hF.aa:t<R G.ZH) (ij ht hF.aa:t<R G.ZH));rw[sM H]at this;exact this
   have e2:∀{ð:sE} {ρ s},ρ[12]?=J (J (Y ð))->s ð=J (f1 (xr G bi))->Ev (pI pZ (pG (f0 1)) (rz qN (pL (U 12) pK))) ρ s (f0 (1+R bi:M)):=λon h12=>by
    have:=rE (e:=pG (f0 1)) rD (eo (Z on) h12) rU;exact D (show((1+R bi:M):al)=1+(R bi:al) by rfl) this
   refine eS (e1 _ (Cb (eE (L.KT (dW O (Z H) (O.le _ _ h9) (rD (v:=f0 (1:M))) (e2 H (O.Zu 0 H)) (D iu (tY [3280200,1,10000000] 0x41084800900120402 H hu)) Gb CZ λŢ s O=>cG H ?_)))));rw[Rz,show 1+R bi - 1=R bi by exact gZ (tD [1] 0x1481214010002400442 H (gO (tY [1] 0x40040008481 H))) (tD [1] 0x10a1214010002400462 H (gO (tY [1] 0x40040008481 H))),List.drop_one,List.tail_cons,č,nN]at O;refine eR hH.nm (O.Zu 0 H) (O.Zu 1 H) Z1 Z1 _ (D (sM H) (Ho (sP ?_)));have O:=O.tail;refine cQ (cG H (dW O (Z H) (O.le _ _ h9) (e2 H (O.Zu 0 H)) rD (D iu (tY [3280200,1,10000000] 0x41084800900120402 H hu)) Gb H λŢ s O=>?_));rw[iO (by exact D č (D iu (D gK (tD [1] 0x94800100100481 H)))),show 1+R bi=R bi+1 by exact gZ (tY [1] 0x240100100481 H) (tY [1] 0x10010002400481 H),List.drop_succ_cons,č,n6,jT (by exact D iu (D gK (uy [1] 0x148120024300000980500462 H (gO (tD [1] 0x90a00002500481 H)))))]at O;refine eI O (O.le _ _ C') (O.Zu 0 H) ?_ λc s O=>sP ?_
   .have:=sJ jr č;rw[gK]at this;exact D uR (D uR (D gK (D jU (D sS (Dp [3280200,41000,1,16777216] 0xc251048000485380c1184240800130404 H hu ń this)))))
   .refine Ow h hF hH he tz ht hs hu O.le (O.Zu 0 H |>.trans ?_) k
    (refine D Ko ?_;rewrite[gW]);rfl
theorem T7(h:GX E g G x)(hF:G.ZU)(hH:HX E cr G ca)(he:E iy.ae=J (iy.aM G t))(hp:G.Ok iy.ag)(tz:PA G t iy.ag iy.ay iy.aL w ts)(ht:t<G.aa)(hs:R iy.ay<=41000)(hu:R iy.aL<=3280200)
  (h8:E c8=J (f1 (xr G iy.ay))) (h9:E a=J (f1 (xr G (t::iy.aL)))) (TE:∀X∈iy.ay++t::iy.aL,X<R G.ZH) (k:∀s',Le E s'->K (ii pH) s'):yZ (Wc.ZA g cr d iy.ae iy.ag (G.nm (G.ZE iy.ag.1)) (ca iy.ag.1) (J (Y c8)) (J (Y a)) y10 sD sD sD) E (tB K):=by
 have hle:=hp.au;have O:=sX.init E
 have hlen:R iy.ay=R w+iy.ag.2:=by
  have:=sJ jr tz.bG;rw[gK,iA]at this;exact this.trans (sJ _ (iO hle))
 have e8:∀{ρ s},ρ[8]?=J (J (Y c8))->ρ[5]?=J (J (f0 (iy.ag.2:M)))->s c8=J (f1 (xr G iy.ay))->Ev (pI p6 (rz qN (pL (U 8) pK)) (U 5)) ρ s (f0 (R w:M)):=λh1 h2 h3=>by
  exact D ((Int.sub_eq_iff_eq_add.mpr (sJ jz hlen)).symm:(R w:al)=(R iy.ay:al) - (iy.ag.2:al)) (rE (eo (Z h1) h3) (Z h2) rV)
 refine eS (rL (Z (v:=f0 (iy.ag.2:M)) H) (eo (Z H) h8) Op.gt _ (D (sT (jy.mpr (jf.mpr (gA (mZ _ _) (i5 hlen.symm))))) (Cb (eE (dW O (Z H) h8 (e8 H rfl h8) rD (tY [41000,10000000] 0x4240900120402 H hs) Gb H λŢ s O=>?_)))));rw[iO (by exact uy [] 0x14812188028462 H hlen),jT (by exact D je (tY [] 4326529 H))]at O;rw[(D tz.bG (D n6 H):iy.ay.drop (R w)=(G.Zv iy.ag.1).take iy.ag.2)]at O;refine dW O (Z H) (O.le _ _ (hH.ao iy.ag.1 hp.ao)) rD (Z (v:=f0 (iy.ag.2:M)) H) (tY [3,10000000] 0x4240900120402 H (hF.au iy.ag.1)) H CZ λc14 s O=>?_
 rw[iO hle,lL,jm]at O;refine eR hH.nm (O.Zu 1 H) (O.Zu 0 H) (λX hX=>(hF.rt iy.ag.1 hp.ao) X (jC hX)) (λX hX=>(hF.rt iy.ag.1 hp.ao) X (jC hX)) _ (D (sM H) (Ho (sP (dB (dW O.tail.tail (Z H) (O.le _ _ h8) rD (e8 H rfl (O.le _ _ h8)) (tY [41000,10000000] 0x4240900120402 H hs) H CZ λŢ s O=>?_)))));rw[iO (by exact uy [] 0x14812188028462 H hlen),lL,jm,(D tz.bG (D nN H):iy.ay.take (R w)=w)]at O;refine cC (cG H (⟨gQ H,λc14 Υ=>?_⟩));have O:=O.new (o:=f1 (xr G [G.ZE iy.ag.1])) Υ;refine eI O (O.Zu 1 H) (O.Zu 0 H) (D uR (D uR (D jU (D sS (uy [41000,1,16777216] 0x10421200243100508c0128403 H hs hlen))))) λc s O=>?_
 have C':=O.Zu 0 H;rw[Ko]at C';refine T6 (h.Zz O.le) hF (hH.Zz O.le) (O.le _ _ he) hp tz ht hs hu (uy [41000] 0x90243100508c0128403 H hs hlen) (O.le _ _ h9) C' (λX hX=>TE X (gU _ (gH _ hX))) λs' hle=>k s' (O.le.trans hle)
theorem We(h:GX s g G x)(hF:G.ZU)(hH:HX s cr G ca)(he:s iy.ae=J (iy.aM G t))(hp:G.Ok iy.ag)(tz:PA G t iy.ag iy.ay iy.aL w ts)(ht:t<G.aa)(hs:R iy.ay<=41000)(hu:R iy.aL<=3280200)
  (h8:s c8=J (f1 (xr G iy.ay))) (h9:s a=J (f1 (xr G (t::iy.aL)))) (TE:∀X∈iy.ay++t::iy.aL,X<R G.ZH) (Í:s d=J (f1 (rC.map pT))) (hq:s c=J (q.aM l)) (hq2:R q.rs<=20) (hqr:∀k∈q.rs,k<R G.ZF/\(k,R (G.Zv k))∈rC) (wS:iy.ag∈rC) (k:∀s',Le s s'->K (ii pH) s'):y1 (Wc.ZA g cr c iy.ae iy.ag (G.nm (G.ZE iy.ag.1)) (ca iy.ag.1) (J (Y c8)) (J (Y a)) (J (Y d)) sD sD sD) s (tB K):=by
 refine cL (t:=Zt) (by
  have:=rL (e:=pN (pL (U 4) (pL (U 5) pK))) (f:=U 10) (ρ:=Wc.ZA g cr c iy.ae iy.ag (G.nm (G.ZE iy.ag.1)) (ca iy.ag.1) (J (Y c8)) (J (Y a)) (J (Y d)) sD sD sD) (cW (Z H) (Z H)) (Z H) (Op.Ņ (neg:=pH) (p:=iy.ag) Í);rw[sM wS]at this;exact this) (λq=>ft q) λø=>sP ?_
 refine L.KT (Kl (xs:=q.rs) (f:=λk=>f0 (k:M)) (h:=λk=>f0 (k:M)) (λø=>Zt) H (rH (Z H) (rT hq H)) (tY [20,16777215] 0x4240900120402 H hq2) (λi k' y hi=>⟨?_,Z H⟩) λc1 M'=>?_)
 .refine xA (hqr k' (gz hi)) λh1 h2=>?_
  have:=rL (e:=pN (pL (U 0) (pL (rz qN (pL (pI qi (pI qi (U 2) (U 0)) (pG (f0 1))) pK)) pK))) (f:=U 1) (ρ:=(m8 [sD,J (Y d),J (Y cr)] 0 y).set 0 (J (f0 (k':M)))) (cW (Z H) (eo (rE (rE (Z H) (Z H) (r5 hH.aB (ux h1))) rD (r8 (n:=1) H)) (hH.ao k' h1))) (Z H) (Op.Ņ (neg:=pH) (p:=(k',R (G.Zv k'))) Í);rw[sM h2]at this;exact this
 refine D (m7.mpr λø ø h=>lh h) ?_;have O:=(sX.init s).new (o:=f1 []) M';refine⟨gE _,λc2 wP=>?_⟩;have O:=O.new (o:=f1 []) wP;refine sA (O.Zu 1 H) (O.Zu 0 H) H _ (?_);have O:=O.tail.tail;exact T7 (h.Zz O.le) hF (hH.Zz O.le) (O.le _ _ he) hp tz ht hs hu (O.le _ _ h8) (O.le _ _ h9) TE λs' hle=>k s' (O.le.trans hle)
theorem E6(h:GX E g G x)(hF:G.ZU)(B:x4 G S)(Wp:G3 G F)(hH:HX E cr G ca)(ZQ:zW G S be q)(hq:E a=J (q.aM d))(he:E iy.ae=J (iy.aM G q.aF))(hE:Mv G S F q iy)(hI:Me G S q (F9 G q.rs++I) I)(hp:iy.ag∈F9 G q.rs++I)(k:∀s',Le E s'->K (ii pH) s'):xj [Y g,Y cr,Y a,Y iy.ae] E K:=by
 have lm:=hI.ok iy.ag hp;refine tW ZQ.ao λr hr pc pu=>?_
 have Ż:∀k∈q.rs,(k,R (G.Zv k))∈r.aJ:=λk hk=>((((B.exp hr).1).rs k).mp (pc k hk).1).2
 have wS:iy.ag∈r.aJ/\((G.Zv iy.ag.1)[iy.ag.2]?=sD\/(G.Zv iy.ag.1)[iy.ag.2]?=J q.aF):=by
  rcases gP.mp hp with hp | hp
  .exact s9 (gL.mp hp) λk hk e1=>tj e1 ⟨Ż k hk,.inl (iz (gC _))⟩
  .cases h2:q.aU with
   | false=>rw[hI.bw.bq h2]at hp;cases hp
   | true=>
    refine vS (hI.bw.aU h2) λp r' Ŧ ZP h3 h4=>?_
    refine D (gv (hr.symm.trans ZP)) ?_;rw[Ŧ]at hp;exact D (gJ.mp hp) ⟨h3,.inr h4⟩
 refine KC (hE.frm hF Wp ZQ.aF lm wS.2) λnw β tz=>?_
 have TE:=tz.d2.top_lt hF;refine DX (dK (v:=pT iy.ag) (cW (rK (Z H) (cK h.hg) (cE (rH (Z H) (rT he H)) cF) (xY h lm)) (rK (Z H) (cK h.hg) (cE (rH (Z H) (rT he H)) cF) (CQ h lm))) H (sP (dK (rE (Z H) (Z H) (r5 hH.aB (ux lm.ao))) H (sP (cQ (Kx h H (rH (Z H) (rT he H)) (λX hX=>TE X (gV _ hX)) (tY [41000,10000000] 0x4240900120402 H hE.ls) λc8 W1=>sP ?_))))));have O:=(sX.init E).new (o:=f1 (xr G iy.ay)) W1;refine cQ (Kx (h.Zz O.le) (l:=q.aF::iy.aL) H (rE (rG (cE (rH (Z H) (rT (O.le _ _ he) H)) cF) (gQ H)) (rH (Z H) (rT (O.le _ _ he) H)) (Op.x! ?_)) (λX hX=>TE X (gU _ hX)) (D iu (tY [3280200,1,10000000] 0x41084800900120402 H hE.lu)) λc9 ű=>sP ?_)
 .refine D (sU _) (D sS (?_:1+_<=_));exact tY [3280200,1,16777216] 0x41204200900120402 H hE.lu
 have O:=O.new (o:=f1 (xr G (q.aF::iy.aL))) ű;exact cO (cC (cG H (cC (cG H (cH (Nq (hH.Zz O.le) hF B (O.Zu 1 H) (λX hX=>TE X (gV _ hX)) hE.aH hr λrC hJn hJo hJ=>RL.ZC O λc10 s O=>sP (We (h.Zz O.le) hF (hH.Zz O.le) (O.le _ _ he) lm tz ZQ.aF hE.ls hE.lu (O.Zu 2 H) (O.Zu 1 H) TE (O.Zu 0 H) (O.le _ _ hq) hI.n (λk hk=>⟨(((B.exp hr).1).o0.ok _ (Ż k hk)).ao,hJ _ (Ż k hk)⟩) (hJ _ wS.1) λs' hle=>k s' (O.le.trans hle))))))))
noncomputable def T8:V ap:=["$end","error","$undefined","a","b","$accept","s","t"]
noncomputable def tx(X:M):ap:=T8.getD X ""
noncomputable def sL(w:V M):V LV:=w.map λX=>g3 (tx X)
noncomputable def RE(X:M):Prop:=X=3\/X=4\/X=6\/X=7
theorem AR:R (sL w)=R w:=gy ..
theorem Ik:sL w++sL ts=sL (w++ts):=by unfold sL;exact D gF H
theorem RF(h:w[i]?=J X):(sL w)[i]?=J (g3 (tx X)):=by unfold sL;refine D (gG) (D h ?_);rfl
noncomputable abbrev WG:=V (sE×M×V M)
variable {pl:WG}
noncomputable def Jj(pl:WG):V LV:=pl.map λp=>f2 [g3 (tx p.2.1),Y p.1]
noncomputable def Mf(pl:WG):V (sE×LO):=pl.map λp=>(p.1,f1 (sL p.2.2))
noncomputable def zX(pn:sE)(z:al)(m:M):sE×LO:=(pn,f1 [f0 z,f0 m])
noncomputable def Bq(pn:sE)(z:al)(m:M)(cp:sE)(pl:WG):V (sE×LO):=zX pn z m::(cp,f1 (Jj pl))::Mf pl
theorem As:R (Jj pl)=R pl:=gy ..
theorem RG(h:E a=J (SZ od (fp.map f0)))(hz:R fp<=63)(k:∀c hs s',sX E s' [zX c hs 0]->K (Y c) s'):Hq [Y a] E K:=by
 refine OS (cI rD (sP (cJ (dE (cX (eP (sX.init E) (Z H) (.inr ⟨od,h⟩) rD rD (by exact D (gy _) (D sS (tY [63,16777216] 0x4240900120402 H hz))) H (CZ (d:=24)) λc4 s O=>?_))))));rw[lL,jm]at O;refine yR (loc:=λhs:al×sF LV=>[J (Y a),J (f0 hs.1),hs.2]) (z0:=(0,sD)) (l:=c4) (vs:=(fp.map f0).take (min 24 (R (fp.map f0)))) (λi ø s=>sX E s [(c4,f1 ((fp.map f0).take (min 24 (R (fp.map f0)))))]) (λi hs s O=>O.Zu 0 H) O (λi v hs s K1 hv O ZW=>?_) λhs s O=>?_
 .refine vp v (gL.mp (jC (gz hv))) λx ø=>cI (v:=f0 (hs.1*1000003+2*(x.natAbs:al)+(if x<0 then 1 else 0)+1)) (rE (rE (rE (rE (Z H) rD ?_) (rE rD (rJ (cE (Z H) cF) (λK k=>(ti _ H k))) ?_) rU) ?_ rU) rD rU) (sP (ZW .next _ _ (ti (_,J (f0 x)) H O)))
  .exact λK k=>⟨IntMulOk.of_right (by decide),k⟩
  .exact λK k=>⟨IntMulOk.of_left (by decide),k⟩
  .by_cases q:x<0
   .exact D (sI q) (Ev.ś (by exact tj (sM q) (rL (Z H) rD rX)) rD)
   .exact D (sH q) (Ev.Ŝ (by exact tj (sT q) (rL (Z H) rD rX)) rD)
 .refine cJ (cZ (cC (cG H (cC (dh (cH ⟨gQ H,λc hc=>?_⟩))))));exact k c hs.1 _ ((O.new (o:=f1 [f0 hs.1,f0 (0:M)]) hc).sub (.cons_cons _ (mU _)))
theorem Ox{α:Type}{l:V α}{x y:α}(h:l[i]?=J x):(l.set i y)[i]?=J y:=
 D (jx) (D (sI H) (D (sI (gB.mp h).1) H))
theorem PB{α:Type}{l:V α}{x:α}(h:l[i]?=J x):l.set i x=l:=by
 refine xE (gB.mp h) λh1 h2=>?_
 exact tj h2 (D (mN _) H)
theorem Mg{z:al}(hn:0<i):∃d:M,d<i/\z.fmod i=d:=by
 refine D (pw _ (ig i)) ?_;have h1:=Int.emod_nonneg z (λe=>j8 hn (iQ e));have h2:=Int.emod_lt_of_pos z (show(0:al)<i by exact kD g8 hn);exact⟨_,(Int.toNat_lt h1).mpr h2,(lR h1).symm⟩
theorem zh{n:M}(O:sX E s pre)(i:M)(e:pre[i]?=J (zX c hs m))(hm:m<=1000)(hn:0<n/\n<=10)(k:∀d z' s',d<n->sX E s' (pre.set i (zX c z' (m+1)))->K (f0 (d:M)) s'):u9 [Y c,f0 n] s K:=by
 refine MN (dF O i 1 e (y:=f0 (m+1:M)) (rE (rE (Z H) rD (r5 (n:=1) (O.Zu i e) H)) rD rU) (Z H) rD (iC 1) λs O=>?_);have e1:=Ox (y:=(c,f1 ([f0 hs,f0 m].set 1 (f0 (m+1:M))))) e;have h:=O.Zu i e1;have h:s c=J (f1 [f0 hs,f0 (m+1:M)]):=h;refine cL (rL (rE (Z H) rD (r5 (n:=0) h H)) rD Op.gt) (λq=>?_) λq=>sP ?_
 .refine s9 (Mg (z:=hs) hn.1) λd hd ŵ=>cI (v:=f0 d) (rE (rE (Z H) rD (r5 (n:=0) h H)) (Z H) (λK k=>⟨λe=>j8 hn.1 (iQ e),by exact D ŵ k⟩)) (sP ?_)
  refine dF O i 0 e1 (y:=f0 (hs.fdiv n)) (rE (rE (Z H) rD (r5 (n:=0) h H)) (Z H) (λK k=>(uS (λe=>j8 hn.1 (iQ e)) ?_ k))) (Z H) rD (mV 1) λs O=>?_
  .exact D (Int.natAbs_natCast _) (lT (Nat.log2_le_self n) (tY [10,9000] 0x4240940120402 H hn.2))
  .rw[ki]at O;exact cP (Z H) (k d _ s hd O)
 .refine s9 (Mg (z:=((m+1:M):al)*((m+1:M):al)+1) hn.1) λd hd ŵ=>cP (v:=f0 d) (rE (rE (rE (rE (Z H) rD (r5 (n:=1) h H)) (rE (Z H) rD (r5 (n:=1) h H)) ?_) rD rU) (Z H) (λK k=>⟨λe=>j8 hn.1 (iQ e),by exact D ŵ k⟩)) (k d hs s hd O)
  exact λK k=>⟨IntMulOk.of_left (intBits_cast_le (D sS (tY [1000,1,16777216] 0x41084800900120402 H hm))),k⟩
noncomputable def X9:V M:=[3,4,6,7,6,3]
theorem Il(O:sX E s pre)(i:M)(e:pre[i]?=J (zX c hs m))(hm:m<=900)(hn:t<=10)(k:∀a w z' m' s',R w=t->(∀X∈w,RE X)->m'<=m+t->sX E s' ((a,f1 (sL w))::pre.set i (zX c z' m'))->K (Y a) s'):zm [Y c,f0 t] s K:=by
 refine K9 (cZ (dJ (fv (cG H ⟨t,H,by exact ig _,by lia,?_⟩))));refine D (jl _) (EP (ρ0:=[sD,J (Y c)]) (vs:=rM t λi=>f0 (i:M)) (λj acc s'=>∃w z' m',acc=sL w/\R w=j/\(∀X∈w,RE X)/\m'<=m+j/\sX E s' (pre.set i (zX c z' m'))) H (tq ([]) hs m H rfl (λX h=>(by cases h)) (gC _) (by exact D (PB e) O)) (λj a s' hj rC=>?_) (by exact D uJ (tY [10,16777215] 0x4240900120402 H hn)) (λj v acc s' jp Ky hv hj rC on hy=>?_) λacc s' hl rC a ha=>?_)
 .unfold qE
  by_cases h:j<t
  .refine D (ux h) (D (sI h) ?_);simp
  .exact D (iz (D uJ (tD [] 0x520484284a2 H h))) (D (sH h) H)
 .refine Ea jp on λy=>?_
  (refine vz rC λw z' m' e9 θ hw zs O=>?_;subst e9)
  (refine xA (U5 hv) λĸ e9=>?_;refine D e9 ?_)
  refine rG (vs:=sL X9) (cE rD (cE rD (cE rD (cE rD (cE rD (cE rD cF)))))) (by decide) _ (cO (cC (cG H (cC (dh (cH (zh (n:=6) O i (Ox e) (Dp [900,10,1000] 0x41204863842728081004260800128405 H hm hn zs ĸ) (by decide) λd z2 s2 hd O=>?_)))))));rw[ki]at O;refine r8 (n:=d) (RF (gM hd)) _ (hy _ _ (tq (w++[X9[d]]) z2 (m'+1) (tj Ik H) (D gK (D θ H)) (λX hX=>?_) (uy [1] 0x260140009001218a020402 H zs) O))
  rcases gP.mp hX with hX | hX
  .exact hw X hX
  .refine D (gJ.mp hX) ?_;have:∀X∈X9,RE X:=by unfold X9 RE;decide
   exact this _ (gz (gM hd))
 ·(refine vz rC λw z' m' e9 θ hw zs O=>?_;refine D e9 ?_)
  rw[uJ]at θ zs;exact k a w z' m' _ θ hw zs (O.new ha)
noncomputable abbrev yr(ps:V (M×V M))(w0:V M)(x y:M)(more:V (M×V M)):Prop:=ps=(6,w0)::(6,[x])::(7,[y])::more/\(R w0<=3/\1<=R w0/\∀X∈w0,RE X)/\(x=3\/x=4)/\(y=3\/y=4)/\R more<=1/\∀p∈more,(p.1=6\/p.1=7)/\R p.2<=3/\∀X∈p.2,RE X
def yr.ai(h:yr ps w0 i y cm):=h.1
def yr.bO(h:yr ps w0 i y cm):=h.2.1
def yr.aj(h:yr ps w0 i y cm):=h.2.2.1
def yr.bU(h:yr ps w0 i y cm):=h.2.2.2.1
def yr.bV(h:yr ps w0 i y cm):=h.2.2.2.2.1
def yr.aA(h:yr ps w0 i y cm):=h.2.2.2.2.2
theorem Nt{Q:V M->M->Prop}(O:sX E s (Bq pn hs m cp pl))(hv:ρ[2]?=J (J (Y cp)))(hf:∀s,Ev e ρ s (g3 (tx X)))(hz:R pl<=100)
  (h2:∀KE:LV->LH->Prop,(∀a w z' m' s',Q w m'->sX E s' ((a,f1 (sL w))::Bq pn z' m' cp pl)->KE (Y a) s')->mo ρ s KE) (k:∀a w z' m' s',Q w m'->sX E s' (Bq pn z' m' cp (pl++[(a,X,w)]))->bb ρ s' TW) :
  qo (qr (qV qT qW (U 2) (pL (pN (pL e (pL mo pK))) pK))) bb ρ s TW:=by
 refine dD (dA (Z (v:=Y cp) hv _ ⟨dk (O.Zu 1 H),cC (d6 (cC (hf s _ (cC (h2 _ λa w z' m' s' hQ O=>cH ⟨gQ H,cH ?_⟩)))))⟩));refine dP (O.Zu 2 H) (D As (tY [100,16777215] 0x4240900120402 H hz)) (k a w z' m' _ hQ (jD ?_ ((O.set 2 H (f1 (Jj pl++[f2 [g3 (tx X),Y a]]))).perm (km _ _).symm)))
 congr 1
 unfold Bq Jj Mf;exact D gF (D gF H)
theorem RH{α:Type}{a x y:α}(h:a∈[x,y]):a=x\/a=y:=(gX.mp h).imp id gJ.mp
theorem U6(O:sX E s (Bq pn hs m cp pl))(hv:ρ[0]?=J (J (Y pn)))(hm:m<=900)(K:LV->LH->Prop)(k:∀a w z' m' s',(∃x,w=[x]/\(x=3\/x=4)/\m'<=m+1)->sX E s' ((a,f1 (sL w))::Bq pn z' m' cp pl)->K (Y a) s') :
  pM (pL (pI qi (pN (pL (pG (g3 "a")) (pL (pG (g3 "b")) pK))) (L.call u9 (pL (U 0) (pL (pG (f0 2)) pK)))) pK) ρ s K:=by
 refine cC (dB (rG (vs:=sL [3,4]) (cE rD (cE rD cF)) (gQ H) _ (cO (cC (cG hv (cC (dh (cH (zh (n:=2) O 0 H (tY [900,1000] 0x4240900120402 H hm) (by decide) λd z2 s2 hd O=>?_)))))))));have hd2:[3,4][d]?=J [3,4][d]:=gM hd;refine r8 (n:=d) (RF hd2) _ (⟨gQ H,λa ha=>k a [[3,4][d]] z2 (m+1) _ (tC _ H ?_ (gC _)) (O.new ha)⟩);exact RH (gz hd2)
theorem RI{n1 n0:M}(O:sX E s (Bq pn hs m cp pl))(hv:ρ[0]?=J (J (Y pn)))(hm:m<=800)(h:∀KE:LV->LH->Prop,(∀i z' s',n0<=i->i<=3->sX E s' (Bq pn z' (m+1) cp pl)->KE (f0 (i:M)) s')->e ρ s KE)(K:LV->LH->Prop)
  (k:∀a w z' m' s',((R w<=3/\n0<=R w/\∀X∈w,RE X)/\m'<=m+4)->sX E s' ((a,f1 (sL w))::Bq pn z' m' cp pl)->K (Y a) s'):L.call zm (pL (U 0) (pL e pK)) ρ s K:=
 (cC (cG hv (h _ λi z' s' h0 h3 O=>cH (Il O 0 H (tY [800,1,900] 0x41084800900120402 H hm) (tY [3,10] 0x4240900120402 H h3) λa w z2 m2 s2 hl hw X' O=>k a w z2 m2 s2 ⟨(uS (tD [3] 0x24090a40880128403 H h3 hl) (uy [] 0x5204862846620403 H h0 hl) hw),by exact uy [3,1,4] 0x412808121821280040800130403 H h3 X'⟩ O))))
theorem Oy{n1:M}(O:sX E s (Bq pn hs m cp pl))(hv:ρ[0]?=J (J (Y pn)))(hm:m<=800)(hn:0<n1/\n1<=10)(K:LV->LH->Prop)(k:∀i z' s',i<n1->sX E s' (Bq pn z' (m+1) cp pl)->K (f0 (i:M)) s'):L.call u9 (pL (U 0) (pL (pG (f0 n1)) pK)) ρ s K:=
 (cC (cG hv (dh (cH (zh O 0 H (tY [800,1000] 0x4240900120402 H hm) hn λd z' s' hd O=>k d z' s' hd O)))))
theorem Nu(O:sX E s [zX pn hs m])(hm:m<=100)(k:∀cp pl z' m' s' w0 x y more,yr (pl.map (·.2)) w0 x y more->m'<=500->sX E s' (Bq pn z' m' cp pl)->K (Y cp) s'):DH [Y pn] s K:=by
 refine La (cQ (cO (cC (cG H (cC (dh (cH (zh (n:=2) O 0 H (tY [100,1000] 0x4240900120402 H hm) (by decide) λmo hs s GE O=>sP (cJ (cQ (cV (cC (d6 (cC (dh (cC (cO (cC (cG H (cC (dB (dh (cO (cC (cG H (cC (dh (cH (zh (n:=3) O 0 H (tY [100,1,1000] 0x41084800900120402 H hm) (by decide) λd hs s hd O=>rU _ (D (by rfl:(1:al)+(d:al)=(1+d:M)) (Il O 0 H (by refine(?_:m+1+1<=900);exact tY [100,1,900] 0x208421090000900120402 H hm) (tY [3,1,10] 0x41204200900120422 H hd) λa w0 hs m1 s XL hw Ć O=>cH ⟨gQ H,cH ⟨gQ H,λcp hcp=>sP ?_⟩⟩)))))))))))))))))))))))))))))));have O:=(O.new (o:=f1 (Jj [(a,6,w0)])) hcp).perm (.trans (.cons _ (.swap _ _ _)) (.swap _ _ _));have Ć:m1<=m+5:=uy [3,1,5] 0x104a0204860840108425000040800130423 H hd Ć;refine Nt (X:=6) O H (λs=>rD) (gQ H) (U6 O H (tD [100,5,900] 0x4120481094040800128403 H hm Ć)) λa2 w2 hs m2 s ZN O=>tW ZN λx e2 hx X'=>Nt (X:=7) O H (λs=>rD) (gQ H) (U6 O H (uy [100,5,1,900] 0x309824104a030401090050800120404 H hm Ć X')) λa3 w3 hs m3 s ZN O=>tW ZN λy e3 hy Õ=>?_
 subst e2 e3;refine dH (loc:=λhs:sF LV×sF LV=>[J (Y pn),J (f0 mo),J (Y cp),hs.1,hs.2]) (z0:=(sD,sD)) (n:=mo) (λi ø s=>∃more z' m',sX E s (Bq pn z' m' cp ((a,6,w0)::(a2,6,[x])::(a3,7,[y])::more))/\R more=i/\m'<=m+7+10*i/\∀p∈more,(p.2.1=6\/p.2.1=7)/\R p.2.2<=3/\∀X∈p.2.2,RE X) (Z H) (tY [2,1099511627776] 0x4240900120422 H GE) (uQ ([]) hs m3 O H (Dp [5,1,7,0] 0x184412800409021380810042601c20004a030404 H Ć X' Õ) (λp hp=>by cases hp)) (λi y5 s K1 hi rC ZW=>?_) λy5 s rC=>sP ?_
 .refine t9 rC λmore z' m' O hl zs ş=>cQ (dB (rG (vs:=sL [6,7]) (cE rD (cE rD cF)) (gQ H) _ (Oy (n1:=2) O H (Dp [100,2,7,10,800] 0x1024090e31082500081018ea084265040128405 H hm GE hi zs) (by decide) _ λd hs s hd O=>?_)))
  have hd2:[6,7][d]?=J [6,7][d]:=gM hd;have hX:[6,7][d]=6\/[6,7][d]=7:=RH (gz hd2);generalize [6,7][d]=X at hd2 hX;refine r8 (n:=d) (RF hd2) _ (sP (Nt (X:=X) O H (λs=>Z H) (by refine(?_:R more+1+1+1<=100);exact uy [2,1,100] 0x104210842120000090c4088a60840128424 H GE hi hl) (RI (n0:=0) (n1:=0) O H (Dp [100,2,7,10,1,800] 0xa120480090e31082500081018ea084265040128405 H hm GE hi zs) λKE hKE=>Oy (n1:=4) O H (Dp [100,2,7,10,1,800] 0xa120480090e31082500081018ea084265040128405 H hm GE hi zs) (by decide) _ λn z' s' hn O=>hKE n z' s' (gE _) (tY [4,3] 0x4240900120422 H hn) O) λa4 w4 z4 m4 s ZN O=>xA ZN λh4 hm4=>ZW .next _ _ ⟨(J (f0 i),J (g3 (tx X))),H,more++[(a4,X,w4)],z4,m4,O,by rw[gK,hl];rfl,Dp [1,4,7,10] 0x4e01884130004090e310826000a1004200940020403 H hm4 zs,λp hp=>?_⟩));refine(gP.mp hp).elim (λhp=>?_) λhp=>?_
  .exact ş p hp
  .exact D (gJ.mp hp) (uS hX h4.1 h4.2.2)
 .refine t9 rC λmore z' m' O hl zs ş=>cP (Z H) (k cp _ z' m' s w0 x y (more.map (·.2)) ⟨H,⟨tD [1,3] 0x2120481094212802020443 H XL hd,tD [1] 0x4004242802020462 H XL,hw⟩,hx,hy,by refine D (gy _) ?_;exact tD [2,1] 0x424090a40880128423 H GE hl,λp hp=>?_⟩ (uy [100,2,7,10,500] 0x1024090c31082500081004265040128404 H hm GE zs) O)
  exact vp p (gL.mp hp) λq hq=>ş q hq
theorem Jk:∀{l:V (M×V M)} {j:M},BM (l++[gc]) j=BM l j++hU (R gc.2+1) (j+R l)
 | [],j=>by (refine D (mq _) ?_;rewrite[CP,Qx,Qx];refine D (gY _) ?_);rfl
 | y::l,j=>by
  (refine D mh ?_;rewrite[CP,CP];refine D (Jk (l:=l)) ?_;rewrite[gW];exact D iu (D (show j+1+R l=j+(R l+1) by exact gZ (tD [1] 0x25010050048000481 H) (tD [1] 0x1401200000940400481 H)) H))
theorem Jl:∀{ps:V (M×V M)} {i j:M},i<=R ps->yv ps i=R (BM (ps.take i) j)
 | ps,0,j,_=>by cases ps<;>rfl
 | [],i+1,j,h=>absurd h (oA _)
 | y::ps,i+1,j,h=>by
  (refine D nV ?_;rewrite[CP];refine D gK (D jA (tj (Jl (oB h)) ?_)));rfl
noncomputable def IM(G:Gm)(i X:M):V M:=(gN i).filter λr=>G.ZE r=X
theorem Jm:IM G (i+1) X=IM G i X++if G.ZE i=X then [i] else []:=by
 unfold IM;refine D ll (D (jS _ _) (D List.filter_cons (D List.filter_nil ?_)))
 by_cases h:G.ZE i=X
 .exact D (sI h) (D (sI (sM h)) H)
 .exact D (sH h) (D (sH (by exact D (sT h) iw)) H)
structure PL where
 aD:sE
 au:sE
 nm:sE
 aX:sE
 lv:sE
 bX:LV
 bH:sE
 bI:sE
 bJ:sE
 bg:V sE
noncomputable def PL.ZA(A:PL)(G:Gm)(y:sF LV):uZ:=[J (Y A.aD),J (Y A.nm),J (f0 G.aa),J (Y A.aX),J (Y A.lv),J .none,J A.bX,y]
noncomputable def PL.aM(A:PL)(G:Gm):LO:=f4 169 A.au [Y A.nm,f0 G.aa,Y A.aX,Y A.lv,.none,A.bX,Y A.bH,Y A.bI,Y A.bJ]
noncomputable def PL.ZC(A:PL)(G:Gm)(i:M):V (sE×LO):=(A.bJ,f1 (nL (BM (G.ZF.take i) 0)))::(A.bI,f1 (nL ((gN i).map (yv G.ZF))))::(A.bH,f1 (A.bg.map Y))::(A.aD,A.aM G)::wg A.bg λX=>f1 (nL (IM G i X))
noncomputable abbrev Sa(st:LH)(G:Gm)(nm rl:sE)(ra:V sE):Prop:=st nm=J (f1 (G.ZH.map g3))/\st rl=J (f1 (ra.map Y))/\R ra=R G.ZF/\∀(r:M) (a:sE),ra[r]?=J a->∃d ZM,st a=J (f4 87 d [f0 r,f0 (G.ZE r),f2 (nL (G.Zv r)),ZM,.none,f0 0,f0 0])
def Sa.KF(h:Sa s G a g ra):=h.1
def Sa.Z2(h:Sa s G a g ra):=h.2.1
def Sa.ν(h:Sa s G a g ra):=h.2.2.1
def Sa.ru(h:Sa s G a g ra):=h.2.2.2
theorem Oz(hS:G.Sm):∀{l:V (M×V M)} {j:M},(∀x∈l,R x.2<=3)->R (BM l j)<=4*R l
 | [],j,_=>gC _
 | x::l,j,h=>by
  have h1:=Oz hS (l:=l) (j:=j+1) λy hy=>h y (gH _ hy)
  (rewrite[CP];refine D gK (D jA (D iu ?_)));exact uy [4,3,1] 0x41300022882400024084810180228403 H h1 (h x gI)
theorem Wf(hS:G.Sm):∀x∈G.ZF,R x.2<=3:=λx hx=>by
 refine xE (ie hx) λr hr=>?_
 have:=hS.au r;unfold Gm.Zv at this;rw[iJ,hr]at this;exact this
theorem T9{A:PL}(hS:G.Sm)(ci:Sa E G A.nm A.aX ra)(Ď:R A.bg=R G.ZH)(hi:ra[i]?=J a)(O:sX E s (A.ZC G i))
  (hK:∀y s',sX E s' (A.ZC G (i+1))->Kb .next (A.ZA G y) s'):Ah (A.ZA G (J (Y a))) s Kb:=by
 have On:i<R G.ZF:=by exact tj ci.ν ((gB.mp hi).1)
 refine KC (ci.ru i a hi) λrd ZM ol=>?_
 have ol:=O.le _ _ ol;have W':=hS.lf i On;have hb:A.bg[G.ZE i]?=J A.bg[G.ZE i]:=gM (by exact uy [] 0x5204a62042628463 H Ď W');generalize A.bg[G.ZE i]=ub at hb
 have Z6:(A.ZC G i)[4+G.ZE i]?=J (ub,f1 (nL (IM G i (G.ZE i)))):=by
  exact D (lM _ _) (zV (us:=λX=>f1 (nL (IM G i X))) hb)
 refine cU O (4+G.ZE i) Z6 (v:=f0 (i:M)) (rE (rH (Z H) (rT (O.Zu 3 H:s A.aD=J (A.aM G)) H)) (rH (Z H) (rT ol H)) (r5 (O.Zu 2 H) (vl hb))) (rH (Z H) (rT ol H)) ?_ λs O=>?_
 .refine D (sU _) ?_;have:=jb (λr=>decide (G.ZE r=G.ZE i)) (gN i);rw[iq]at this;exact uy [5,16777215] 0x424090a4080013040628424 H On hS.aO this
 have O:sX E s ((A.bJ,f1 (nL (BM (G.ZF.take i) 0)))::(A.bI,f1 (nL ((gN i).map (yv G.ZF))))::(A.bH,f1 (A.bg.map Y))::(A.aD,A.aM G)::wg A.bg λX=>f1 (nL (IM G (i+1) X))):=by
  refine jD ?_ O
  congr 1
  refine D (lM _ _) (?_:(A.bJ,_)::(A.bI,_)::(A.bH,_)::(A.aD,A.aM G)::(wg A.bg λX=>f1 (nL (IM G i X))).set (G.ZE i) _=_);refine D (FU hb _) (sJ (λr=>(A.bJ,f1 (nL (BM (G.ZF.take i) 0)))::(A.bI,f1 (nL ((gN i).map (yv G.ZF))))::(A.bH,f1 (A.bg.map Y))::(A.aD,A.aM G)::r) (CR λsC ø=>?_))
  by_cases e:sC=G.ZE i
  .refine D e ?_;exact D (sI H) (D Jm (D (sI H) (D (wQ _ _) H)))
  .exact D (sH e) (D Jm (D (sH (Ne.symm e)) (D (gY _) H)))
 refine KC (ci.ru i a hi) λrd ZM ol=>?_
 have ol:=O.le _ _ ol;have I_:=Oz hS (l:=G.ZF.take i) (j:=0) λx hx=>Wf hS x (jC hx)
 have L?:R (G.ZF.take i)=i:=by exact D iA (iO (iG On))
 rw[L?]at I_;refine cU O 1 H (v:=f0 (yv G.ZF i:M)) (rH (Z H) (rT (O.Zu 3 H:s A.aD=J (A.aM G)) H)) (by (refine D (Jl (j:=0) (iG On)) ?_;rewrite[<- sU]);exact rJ (cE (rH (Z H) (rT (O.Zu 3 H:s A.aD=J (A.aM G)) H)) cF) (sa (O.Zu 0 H))) (by exact D (sU _) (D (gy _) (D iq (tD [5,16777215] 0x424090012840520423 H On hS.aO)))) λs O=>?_
 refine KC (ci.ru i a hi) λrd ZM ol=>dD (dA (rH (Z H) (rT (O.Zu 3 H:s A.aD=J (A.aM G)) H) _ ⟨dk (O.Zu 0 H),cC (eh (v:=f0 (i:M)) (n:=R (G.Zv i)+1) O (rH (Z H) (rT (O.le _ _ ol) H)) (λs' hle=>?_) (by exact tY [3,1,16777216] 0x41084800900120402 H (hS.au i)) λcr s O=>cH ?_)⟩))
 .have:=rE (e:=rz qN (pL (L.Zx 87 2 (U 7)) pK)) (f:=pG (f0 1)) (ρ:=A.ZA G (J (Y a))) (rJ (cE (rH (Z H) (rT (hle _ _ (O.le _ _ ol)) H)) cF) sb) rD rU;rw[sU]at this;exact this
 refine(vN _ _ _ _ H (O.Zu 1 H) (.inr (ti _ H (O.Zu 0 H))) (by exact D (sU _) (D jA (Dp [5,4,3,1,16777216] 0x102309404004820942030444080013900731025 H On hS.aO I_ (hS.au i)))) (hK (J (Y a)) _ (jD ?_ ((O.set 1 H (f1 (nL (BM (G.ZF.take i) 0)++hU (R (G.Zv i)+1) (f0 (i:M))))).tail))))
 congr 1
 unfold PL.ZC;refine D (tF (dR On)) (D Jk (D L? (D (iB _) (D ll (D gF ?_)))));have e1:nL (BM (G.ZF.take i) 0++hU (R (G.Zv i)+1) i)=nL (BM (G.ZF.take i) 0)++hU (R (G.Zv i)+1) (f0 (i:M)):=by unfold nL;exact D gF (D List.map_replicate H)
 exact D (show((G.ZE i,G.Zv i):M×V M).2=G.Zv i from H) (D e1 (D ((wQ ..).symm:nL ((gN i).map (yv G.ZF)++[i].map (yv G.ZF))=nL ((gN i).map (yv G.ZF))++[f0 (yv G.ZF i:M)]) H))
noncomputable abbrev OA(st:LH)(x:GA):Prop:=(∀(X:M) a,x.bl[X]?=J a->st a=sD)/\st x.Û=sD/\st x.ow=sD
def OA.bl(h:OA s x):=h.1
def OA.Û(h:OA s x):=h.2.1
def OA.ow(h:OA s x):=h.2.2
theorem Le.none(h:Le E s)(hs:s a=sD):E a=sD:=(sX.init E).Zz h |>.none hs
theorem OA.Zz(h:OA s x)(l:Le E s):OA E x:=⟨λX a e=>l.none (h.bl X a e),l.none h.Û,l.none h.ow⟩
theorem Im(hS:G.Sm)(ci:Sa E G c nu ra)(O:sX E s [(g,f4 169 d [])])(k:∀x s',Le E s'->GX s' g G x->OA E x->K .none s'):zp [Y g,Y c,f0 G.aa,Y nu,Y ad,.none,wE] s K:=by
 refine Gw (cS O 0 H (Z H) (Z H) (gE _) λs O=>(cS O 0 H (Z H) (Z H) (gC 1) λs O=>cS O 0 H (Z H) (Z H) (gC 2) λs O=>?_));refine cS O 0 H (Z H) (Z H) (gC 3) λs O=>cS O 0 H (Z H) (Z H) (gC 4) λs O=>cS O 0 H (Z H) (Z H) (gC 5) λs O=>?_
 have O:sX E s [(g,f4 169 d [Y c,f0 G.aa,Y nu,Y ad,.none,wE])]:=O;refine cY (C8 O (rH (Z H) (rT (O.Zu 0 H) H)) (O.le _ _ ci.KF) (D (gy _) (tY [8,16777215] 0x4240900120402 H hS.n)) λua c6 s Ď O=>tS O 1 H (Z H) (gC 6) λs O=>?_);rw[gy]at Ď;have O:sX E s ((c6,f1 (ua.map Y))::(g,f4 169 d [Y c,f0 G.aa,Y nu,Y ad,.none,wE,Y c6])::wg ua λø=>f1 []):=O;refine⟨by decide,λc7 h1=>tS (O.new (o:=f1 []) h1) 2 H (Z H) (gC 7) λs O=>?_⟩;have O:sX E s ((c7,f1 [])::(c6,f1 (ua.map Y))::(g,f4 169 d [Y c,f0 G.aa,Y nu,Y ad,.none,wE,Y c6,Y c7])::wg ua λø=>f1 []):=O;refine⟨by decide,λc8 h1=>tS (O.new (o:=f1 []) h1) 3 H (Z H) (gC 8) λs O=>?_⟩;have O:sX E s (PL.ZC ⟨g,d,c,nu,ad,wE,c6,c7,c8,ua⟩ G 0):=O;refine dq (loc:=PL.ZA ⟨g,d,c,nu,ad,wE,c6,c7,c8,ua⟩ G) (z0:=sD) (l:=nu) (vs:=ra.map Y) (λi ø s=>sX E s (PL.ZC ⟨g,d,c,nu,ad,wE,c6,c7,c8,ua⟩ G i)) (rH (Z H) (rT (O.Zu 3 H) H)) (λi z s O=>O.le _ _ ci.Z2) O (λi v z s K1 hv O ZW=>?_) λz s O=>sP ?_
 .rw[gG]at hv;exact vp v (gR.mp hv) λa ha=>T9 hS ci Ď ha O λy s' O=>ZW .next _ _ (ti y H O)
 .rw[gy,ci.ν]at O;refine cS O 3 H (y:=f0 (G.count:M)) ?_ (Z H) (gC 9) λs O=>?_
  .have:=rJ (es:=pL (L.Zx 169 8 (U 0)) pK) (fn:=qN) (ρ:=PL.ZA ⟨g,d,c,nu,ad,wE,c6,c7,c8,ua⟩ G z) (cE (rH (Z H) (rT (O.Zu 3 H) H)) cF) (sa (O.Zu 0 H));rw[sU,ic]at this;exact this
  .refine k ⟨d,c,nu,ad,c6,c7,c8,wE,ra,ua⟩ s O.le ⟨O.Zu 3 H,O.le _ _ ci.KF,O.le _ _ ci.Z2,ci.ν,λr a h=>?_,O.Zu 2 H,Ď,λX a h=>?_,O.Zu 1 H,?_⟩ ⟨λX a h=>?_,O.fr 1 H,O.fr 0 H⟩
   .exact KC (ci.ru r a h) λd ZM h=>(KD d ZM (O.le _ _ h))
   .exact(O.ZT _ (gH _ (gH _ (gH _ (gH _ (gz (zV (us:=λX=>f1 (nL (IM G (R G.ZF) X))) h))))))).1
   .have:=O.Zu 0 H;rw[ic]at this;exact this
   .exact(O.ZT _ (gH _ (gH _ (gH _ (gH _ (gz (zV (us:=λX=>f1 (nL (IM G (R G.ZF) X))) h))))))).2
noncomputable def NC(ts:V M):V M:=[0,1,2]++ts++[5,6,7]
noncomputable def ix(ts:V M)(X:M):M:=(NC ts).idxOf X
noncomputable def gm(ps:V (M×V M))(ts:V M):Gm:=⟨(NC ts).map tx,3+R ts,(3+R ts,[ix ts 6,0])::ps.map λp=>(ix ts p.1,p.2.map (ix ts))⟩
noncomputable abbrev AS(ps:V (M×V M))(ts:V M):Prop:=ts.Nodup/\(∀t∈ts,t=3\/t=4)/\∀p∈ps,∀X∈p.2,X=3\/X=4->X∈ts
def AS.nd(h:AS ps ts):=h.1
def AS.sub(h:AS ps ts):=h.2.1
def AS.has(h:AS ps ts):=h.2.2
theorem RJ:∀{ts:V M},ts.Nodup->(∀t∈ts,t=3\/t=4)->ts≠[]->ts=[3]\/ts=[4]\/ts=[3,4]\/ts=[4,3]
 | [],_,_,h=>absurd rfl h
 | [a],_,hs,_=>(hs a gI).elim (λe=>.inl (D e H)) λe=>.inr (.inl (D e H))
 | a::b::r,hn,hs,_=>by
  have ha:=hs a gI;have hb:=hs b (gH _ gI);refine xA (iK.mp hn) λh1 h2=>xA (iK.mp h2) λh3 ø=>?_
  have ĳ:a≠b:=λe=>h1 (e▸gI)
  have hr:r=[]:=by
   cases r with
   | nil=>rfl
   | cons c r=>
    have hc:=hs c (gH _ (gH _ gI));have C_:a≠c:=λe=>h1 (e▸gH _ gI)
    have E?:b≠c:=λe=>h3 (e▸gI)
    exact(ha.elim (λp=>hb.elim (λq=>ĳ (p.trans q.symm)) λq=>hc.elim (λr=>C_ (p.trans r.symm)) λr=>E? (q.trans r.symm)) λp=>hb.elim (λq=>hc.elim (λr=>E? (q.trans r.symm)) λr=>C_ (p.trans r.symm)) λq=>ĳ (p.trans q.symm)).elim
  subst hr
  rcases ha with rfl | rfl<;>rcases hb with rfl | rfl
  .exact absurd rfl ĳ
  .exact .inr (.inr (.inl H))
  .exact .inr (.inr (.inr H))
  .exact absurd rfl ĳ
noncomputable abbrev Br(ts:V M):Prop:=R ts<=2/\(∀t∈ts,3<=ix ts t/\ix ts t<3+R ts)/\ix ts 5=3+R ts/\ix ts 6=3+R ts+1/\ix ts 7=3+R ts+2/\(∀X∈NC ts,((NC ts).map tx).getD (ix ts X) "" = tx X)/\((NC ts).map tx).Nodup/\∀x∈(NC ts).map tx,jI x=pH
def Br.aB(h:Br ts):=h.1
def Br.aF(h:Br ts):=h.2.1
def Br.ae(h:Br ts):=h.2.2.1
def Br.ay(h:Br ts):=h.2.2.2.1
def Br.aL(h:Br ts):=h.2.2.2.2.1
def Br.nm(h:Br ts):=h.2.2.2.2.2.1
def Br.nd(h:Br ts):=h.2.2.2.2.2.2.1
def Br.ok(h:Br ts):=h.2.2.2.2.2.2.2
theorem XE(h:ts=[3]\/ts=[4]\/ts=[3,4]\/ts=[4,3]):Br ts:=by
 rcases h with rfl | rfl | rfl | rfl<;>exact⟨by decide,by decide,H,H,H,by decide +kernel,by decide +kernel,by decide +kernel⟩
theorem Wg(ts:V M):R (NC ts)=3+R ts+3:=by unfold NC;exact D gK (D gK H)
theorem Br.ns(I:Br ts)(h1:3+R ts<X)(h2:X<R (NC ts)):X=ix ts 6\/X=ix ts 7:=by
 rw[Wg]at h2;exact D I.ay (D I.aL ((Nat.eq_or_lt_of_le h1).imp ky λh=>gZ (mv h2) h))
theorem Dy(h:ps[i]?=J gc):(gm ps ts).ZE (i+1)=ix ts gc.1/\(gm ps ts).Zv (i+1)=gc.2.map (ix ts):=by
 unfold Gm.ZE Gm.Zv gm;refine D (iJ) (D (pA) (D (gG) (D h ?_)));exact⟨H,H⟩
theorem Mh(h:r<R (gm ps ts).ZF)(h0:r≠0):∃i gc,r=i+1/\ps[i]?=J gc:=by
 have h:r<R (ps.map λgc=>(ix ts gc.1,gc.2.map (ix ts)))+1:=h;rw[gy]at h;obtain ⟨i,rfl⟩:=Nat.exists_eq_succ_of_ne_zero h0;exact⟨i,_,H,gM (oz h)⟩
theorem yr.ZT(h:yr ps w0 i y cm)(hp:gc∈ps):(gc.1=6\/gc.1=7)/\R gc.2<=3/\∀X∈gc.2,RE X:=by
 rw[h.ai]at hp
 rcases gX.mp hp with rfl | hp
 .exact(uS (.inl H) h.bO.1 h.bO.2.2)
 .rcases gX.mp hp with rfl | hp
  .exact(uS (.inl H) (gQ H) (λX hX=>D (gJ.mp hX) (h.aj.elim .inl λh=>.inr (.inl h))))
  .rcases gX.mp hp with rfl | hp
   .exact(uS (.inr H) (gQ H) (λX hX=>D (gJ.mp hX) (h.bU.elim .inl λh=>.inr (.inl h))))
   .exact h.aA gc hp
theorem AS.Ė(hT:AS ps ts)(h:yr ps w0 i y cm):Br ts:=
 XE (RJ hT.nd hT.sub λe=>by
  have:=hT.has (6,[i]) (D h.ai (gH _ gI)) i (iE _) h.aj;rw[e]at this;cases this)
theorem AS.in4(hT:AS ps ts)(h:yr ps w0 i y cm)(hp:gc∈ps)(hX:X∈gc.2):X∈ts\/X=6\/X=7:=by
 rcases (h.ZT hp).2.2 X hX with e | e | e | e
 .exact .inl (hT.has gc hp X hX (.inl e))
 .exact .inl (hT.has gc hp X hX (.inr e))
 .exact .inr (.inl e)
 .exact .inr (.inr e)
theorem AS.sym(hT:AS ps ts)(h:yr ps w0 i y cm)(hp:gc∈ps)(hX:X∈gc.2):3<=ix ts X/\ix ts X<R (NC ts)/\ix ts X≠3+R ts/\X∈NC ts:=by
 have I:=hT.Ė h;have hl:R (NC ts)=3+R ts+3:=by unfold NC;exact D gK (D gK H)
 rcases hT.in4 h hp hX with hm | rfl | rfl
 .exact(AV (tY [3] 0x10010908008402 H (I.aF X hm).1) (uy [3] 0xa4094c008081080260040028463 H hl (I.aF X hm).2) (tD [3] 0x1401010232802020422 H (I.aF X hm).2) (gV _ (gU _ hm)))
 .exact(AV (tD [3,1] 0x20021204250040020462 H I.ay) (uy [3,1] 0x5204a009801000a1184260040020443 H I.ay hl) (tD [3,1] 0xa008081104250040020462 H I.ay) (gU _ (by decide)))
 .exact(AV (tD [3,2] 0x20021204250040020462 H I.aL) (uy [3,2] 0x5204a009801000a1184260040020443 H I.aL hl) (tD [3,2] 0xa008081104250040020462 H I.aL) (gU _ (by decide)))
theorem Wh(G:Gm):((gN (R G.ZF)).map λr=>R (G.Zv r))=G.ZF.map λt=>R t.2:=by
 apply jj;intro i;refine D (gG) (D (gG) ?_)
 rcases iZ i (R G.ZF) with h | h
 .refine D (kJ h) (D (dR h) ?_);rfl
 .refine D (iz (D iq h)) (D (iz h) ?_);rfl
theorem Kz(hT:AS ps ts)(h:yr ps w0 t y cm):(gm ps ts).ZU:=by
 have I:=hT.Ė h
 have hn:R (gm ps ts).ZH=3+R ts+3:=by
  exact D (gy _) (D gK (D gK H))
 have ĺ:R (NC ts)=3+R ts+3:=tj hn ((gy ..).symm);have hR:R (gm ps ts).ZF=R ps+1:=by refine(?_:R (ps.map _)+1=_);exact D (gy _) H
 have a!:=h.bV;have SL:R ps<=4:=by refine D h.ai (?_:R cm+1+1+1<=4);exact tY [1,4] 0x840100401200000900120402 H a!
 have ST:(gm ps ts).aa=3+R ts:=H;have h0:(gm ps ts).Zv 0=[ix ts 6,0]:=H
 have W':∀r,r<R (gm ps ts).ZF->r≠0->(gm ps ts).aa<(gm ps ts).ZE r/\(gm ps ts).ZE r<R (gm ps ts).ZH:=λr hr np=>by
  (refine vX (Mh hr np) λi p e9 hp=>?_;subst e9)
  refine D ((Dy hp).1) ?_
  rcases (h.ZT (gz hp)).1 with e | e<;>refine D e ?_
  .exact D I.ay ⟨iC _,D hn (pB (by decide) _)⟩
  .exact D I.aL ⟨pC (by decide),D hn (iC _)⟩
 have r!:∀r,r<R (gm ps ts).ZF->(gm ps ts).aa<=(gm ps ts).ZE r/\(gm ps ts).ZE r<R (gm ps ts).ZH:=λr hr=>by
  by_cases e:r=0
  .refine D e ?_;exact⟨gC _,D hn (pC (by decide))⟩
  .exact⟨iG (W' r hr e).1,(W' r hr e).2⟩
 have b_:∀r,r<R (gm ps ts).ZF->r≠0->∀X∈(gm ps ts).Zv r,3<=X/\X<R (NC ts)/\X≠3+R ts:=λr hr np X hX=>by
  (refine vX (Mh hr np) λi p e9 hp=>?_;subst e9)
  rw[(Dy hp).2]at hX;refine vp X (gL.mp hX) λsC hY=>?_
  have:=hT.sym h (gz hp) hY;exact(uS this.1 this.2.1 this.2.2.1)
 refine⟨⟨by exact tD [2,3,8] 0x209024084a1080040880128403 H I.aB hn,by exact uy [3] 0xa4090c008081100260040028463 H hn ST,by exact tD [1,4,5] 0x412048109420004a020443 H hR SL,λr=>?_,λr hr=>(r! r hr).2,λr hr X hX=>?_,?_⟩,by exact tD [3] 0x4004242802020462 H ST,λr hr=>(r! r hr).1,by exact tD [1,0] 0x408425004a020462 H hR,H,by exact D h0 (D I.ay (D ST H)),λr hr np=>j8 (W' r hr np).1,λr hr np X hX=>⟨(b_ r hr np X hX).1,(b_ r hr np X hX).2.2⟩,λX h1 h2=>?_⟩
 .rcases iZ r (R (gm ps ts).ZF) with hr | hr
  .by_cases e:r=0
   .refine D e ?_;exact D h0 (kI 2)
   ·(refine vX (Mh hr e) λi p e9 hp=>?_;subst e9)
    exact D ((Dy hp).2) (D (gy _) ((h.ZT (gz hp)).2.1))
  .unfold Gm.Zv;refine D (iJ) (D (iz hr) ?_);decide
 .by_cases e:r=0
  .subst e;rw[h0]at hX
   rcases RH hX with rfl | rfl
   .exact D I.ay (D hn (pB (by decide) _))
   .exact D hn (mV _)
  .exact Dp [3] 0x5204a72042009801000e1100260040028464 H hn ĺ (b_ r hr e X hX).2.1
 .refine D (Wh _) (?_:((2:M)::((ps.map λp=>(ix ts p.1,p.2.map (ix ts))).map λt=>R t.2)).sum<=10);refine D iS (D h.ai ?_)
  have Õ:(cm.map ((λt:M×V M=>R t.2) ∘ λp=>(ix ts p.1,p.2.map (ix ts)))).sum<=3:=by
   cases GE:cm with
   | nil=>exact gE _
   | cons q r=>
    cases r with
    | nil=>
     refine(?_:R (q.2.map (ix ts))+0<=3);exact D (gy _) ((h.aA q (D GE gI)).2.1)
    | cons q2 r=>rw[GE]at a!;simp at a!
  refine D iN (D iN (D iN (D jX (D jX (D jX (D jX (?_:2+(R (w0.map (ix ts))+(1+(1+_)))<=10)))))));exact D (gy _) (tD [3,2,1,10] 0xc25104020808008401200250800120403 H h.bO.1 Õ)
 .rw[hn,<- ĺ]at h2;have hx:=I.aF t (hT.has (6,[t]) (D h.ai (gH _ gI)) t (iE _) h.aj);have hy:=I.aF y (hT.has (7,[y]) (D h.ai (gH _ (gH _ gI))) y (iE _) h.bU)
  rcases I.ns (h1:3+R ts<X) h2 with rfl | rfl
  .have hp:ps[1]?=J (6,[t]):=D h.ai H;exact(Jq 2 (ix ts t) (by refine D hR (D h.ai (?_:2<R cm+1+1+1+1));exact tY [2,1] 0x21084210848000000084a1 H) ((Dy hp).1) ((Dy hp).2) hx.1 hx.2)
  .have hp:ps[2]?=J (7,[y]):=D h.ai H;exact(Jq 3 (ix ts y) (by refine D hR (D h.ai (?_:3<R cm+1+1+1+1));exact tY [3,1] 0x21084210848000000084a1 H) ((Dy hp).1) ((Dy hp).2) hy.1 hy.2)
theorem Nv(hT:AS ps ts)(h:yr ps w0 i y cm)(hX:X∈NC ts):(gm ps ts).nm (ix ts X)=tx X:=(hT.Ė h).nm X hX
theorem U7(hT:AS ps ts)(h:yr ps w0 i y cm):(gm ps ts).Nm:=by
 have I:=hT.Ė h;refine⟨I.nd,I.ok,?_,?_,?_⟩
 .have:=I.nm 5 (gU _ (by decide));rw[I.ae]at this;exact this
 .have:=I.nm 6 (gU _ (by decide));rw[I.ay]at this;exact this
 .exact I.nm 0 (gV _ (gV _ (by decide)))
theorem XF(hT:AS (pl.map (·.2)) ts)(h:yr (pl.map (·.2)) w0 t y ps)(hc:s cr=J (f1 (f2 [g3 "$accept",Y a]::Jj pl)))(h0:s a=J (f1 (sL [6,0])))(hp:∀gc∈pl,s gc.1=J (f1 (sL gc.2.2))):∃ca,HX s cr (gm (pl.map (·.2)) ts) ca:=by
 refine⟨λr=>if r=0 then a else (pl.getD (r - 1) (0,0,[])).1,?_,λr hr=>?_,U7 hT h⟩
 .refine D hc (sJ (λl=>J (f1 l)) ?_);apply jj;intro r
  rcases iZ r (R (gm (pl.map (·.2)) ts).ZF) with hr | hr
  .refine D (ux hr) ?_;dsimp only
   by_cases e:r=0
   .refine D e ?_;exact D (sI H) (D (show(gm (pl.map (·.2)) ts).ZE 0=(gm (pl.map (·.2)) ts).aa from H) (D ((U7 hT h).ac) H))
   ·(refine vX (Mh hr e) λi gc e9 hi=>?_;subst e9)
    rw[gG]at hi;refine vp gc (gR.mp hi) λq hq=>D (sH e) (D ((Dy (by refine D (gG) (D hq ?_);rfl)).1) (D (Nv hT h (gU _ (by rcases ((h.ZT (iD (gz hq))).1) with e | e<;>refine D e ?_<;>decide):q.2.1∈NC ts)) (D (pA) (D (nU _ _) (D (iJ) (D hq ?_))))))
    refine D (gG) (D hq ?_);rfl
  .have sB:R ((pl.map (·.2)).map λgc:M×V M=>(ix ts gc.1,gc.2.map (ix ts)))+1<=r:=hr;rw[gy,gy]at sB;exact D (iz (show(rM _ _).length<=r by exact D uJ hr)) (D (iz (D iu (D As sB))) H)
 .dsimp only
  by_cases e:r=0
  .refine D e ?_;refine D (sI H) (D h0 (sJ (λl=>J (f1 l)) (?_:[g3 (tx 6),g3 (tx 0)]=[g3 ((gm (pl.map (·.2)) ts).nm (ix ts 6)),g3 ((gm (pl.map (·.2)) ts).nm 0)])));exact D (Nv hT h (gU _ (by decide))) (D (show(gm (pl.map (·.2)) ts).nm 0=tx 0 from ((hT.Ė h).nm 0 (gV _ (gV _ (by decide))))) H)
  ·(refine vX (Mh hr e) λi gc e9 hi=>?_;subst e9)
   rw[gG]at hi;refine vp gc (gR.mp hi) λq hq=>D (sH e) (D (nU _ _) (D (iJ) (D hq ?_)))
   refine D (show((J q).getD (0,0,[])).1=q.1 from H) (D (hp q (gz hq)) (D ((Dy (by refine D (gG) (D hq ?_);rfl)).2) ?_));refine sJ (λl=>J (f1 l)) ?_;unfold sL xr
   exact D iS (k9 λX hX=>by
    refine(?_:_=g3 ((gm (pl.map (·.2)) ts).nm (ix ts X)));exact D (Nv hT h (hT.sym h (iD (gz hq)) hX).2.2.2) H)
theorem RK [Decidable Q] (h:(pH != b8 Q)=pH):¬ Q:=λp=>by rw[sM p]at h;exact ft h
theorem U8 [Decidable Q] (h:(pH != b8 Q)=Zt):Q:=Decidable.byContradiction λp=>by rw[sT p]at h;exact tf h
theorem XG:T8.Nodup:=by decide +kernel
theorem RM(h:X<8):T8[X]?=J (tx X):=by
 unfold tx;refine D (iJ) (D (gM h) ?_);rfl
theorem RN(hX:X<8)(hY:sC<8)(e:tx X=tx sC):X=sC:=(jq hX XG).mp ((RM hX).trans ((sJ J e).trans (RM hY).symm))
theorem U9(hX:X<8):jI (tx X)=pH:=
 (by decide +kernel:∀x∈T8,jI x=pH) _ (gz (RM hX))
theorem Mi:∀{w:V M},(∀sC∈w,sC<8)->uT 3 (sL w)=pH
 | [],_=>rfl
 | X::w,h=>by
  refine(?_:(xC 3 (g3 (tx X))&&uT 3 (sL w))=pH);exact D (Mi λbv hZ=>h bv (gH _ hZ)) (D (n5 _) (U9 (h X gI)))
theorem Mj:∀{w:V M},L.ä (sL w)=J (w.map tx)
 | []=>rfl
 | X::w=>by
  refine(?_:(L.ä (sL w)).map _=_);exact D Mj H
theorem RP{X:M}(hX:X<8):∀{w:V M},(∀sC∈w,sC<8)->(w.map tx).idxOf (tx X)=w.idxOf X
 | [],_=>rfl
 | sC::w,h=>by
  refine D iN (D List.idxOf_cons (D List.idxOf_cons (D (RP hX λbv hZ=>h bv (gH _ hZ)) ?_)))
  by_cases e:sC=X
  .subst e;exact D (tJ _) (D (tJ _) H)
  .exact D (beq_false_of_ne e) (D (beq_false_of_ne λq=>e (RN (h sC gI) hX q)) H)
namespace Op
theorem ņ{neg:bn}(hX:X<8)(hw:∀sC∈w,sC<8)(h:s l=J (f1 (sL w))):Op (ql neg (g3 (tx X)) (Y l)) s (ii (neg != b8 (X∈w))):=λK k=>by
 unfold ql;simp only[h];refine(uS (U9 hX) (Mi hw) ?_);rewrite[show decide (g3 (tx X)∈sL w)=b8 (X∈w) from t6.mpr ⟨λm=>?_,λm=>iD (f:=λX=>g3 (tx X)) m⟩]
 .exact k
 .exact s9 (gL.mp m) λsC hY e=>RN (hw sC hY) hX (LV.str.inj e)▸hY
theorem ő(hX:X<8)(hw:∀sC∈w,sC<8)(hm:X∈w)(h:s l=J (f1 (sL w))):Op (qY [Y l,g3 (tx X)]) s (f0 (w.idxOf X:M)):=λK k=>by
 exact(vN _ _ _ _ H h Mj (iD hm) (D (RP hX hw) k))
end Op
theorem Ua(hX:X=6\/X=7)(h:ρ[3]?=J (J (g3 (tx X)))):EvB (pU (pX (qk Zt) (U 3) (pG (g3 "error"))) (pU (pX (ql Zt) (qj (U 3) (pG .none) (pG (f0 1))) (pN (pL (pG (g3 "")) (pL (pG (g3 "$")) (pL (pG (g3 "'")) pK))))) pW)) ρ s Zt:=by
 have key:jI (tx X)=pH/\tx X≠"error"/\Str.length (tx X)<=th/\jI (Txt.slice (tx X) sD (J 1))=pH/\Txt.slice (tx X) sD (J 1)≠""/\Txt.slice (tx X) sD (J 1)≠"$"/\Txt.slice (tx X) sD (J 1)≠"'":=by
  rcases hX with rfl | rfl<;>refine(Cj (by decide +kernel) (by decide +kernel) ?_ (by decide +kernel) (uS (by decide +kernel) (by decide +kernel) (by decide +kernel)))<;>exact gA (show _<=1 by decide +kernel) (by refine D sS ?_;decide)
 (refine Cg key λk1 k2 k3 k4 r9=>zY r9 λk5 k6 k7=>?_)
 refine EvB.v! (rL (Z h) rD λK k=>(uS k1 (by decide +kernel) (D (sT λe=>k2 (LV.str.inj e)) k))) (EvB.Ŕ (rL (x:=g3 (Txt.slice (tx X) sD (J 1))) (λK k=>Z h _ ⟨k3,k⟩) (rG (cE rD (cE rD (cE rD cF))) (gQ H)) λK k=>(uS k4 (by decide +kernel) ?_)));rewrite[sT λm=>?_]
 .exact k
 .rcases gX.mp m with e | m
  .exact k5 (LV.str.inj e)
  .rcases RH m with e | e
   .exact k6 (LV.str.inj e)
   .exact k7 (LV.str.inj e)
noncomputable def My(i:M):V M:=if i=0 then [] else if i<3 then [6] else [6,7]
theorem XH:∀sC∈My i,sC<8:=λsC hY=>by
 unfold My at hY
 split at hY
 .cases hY
 .split at hY
  .refine D (gJ.mp hY) ?_;decide
  .rcases RH hY with rfl | rfl<;>decide
noncomputable abbrev OB(st:LH)(cp:sE)(pl:WG)(w0:V M)(x y:M)(more:V (M×V M)):Prop:=st cp=J (f1 (Jj pl))/\(∀p∈pl,st p.1=J (f1 (sL p.2.2)))/\yr (pl.map (·.2)) w0 x y more
def OB.aB(h:OB s cp pl w0 i y ps):=h.1
def OB.ao(h:OB s cp pl w0 i y ps):=h.2.1
def OB.ok(h:OB s cp pl w0 i y ps):=h.2.2
theorem OB.Zz(h:OB s cp pl w0 i y ps)(l:Le s E):OB E cp pl w0 i y ps:=⟨l _ _ h.aB,λp hp=>l _ _ (h.ao p hp),h.ok⟩
theorem Ub{p:sE×M×V M}(h:yr (pl.map (·.2)) w0 t y ps)(hp:pl[i]?=J p):(p.2.1=6\/p.2.1=7)/\My (i+1)=if p.2.1∈My i then My i else My i++[p.2.1]:=by
 have h1:=(h.ZT (iD (gz hp))).1;refine⟨h1,?_⟩;have h2:(pl.map (·.2))[i]?=J p.2:=by refine D (gG) (D hp ?_);rfl
 rw[h.ai]at h2
 match i,h2 with
 | 0,h2=>have:=gv h2;exact tj this H
 | 1,h2=>have:=gv h2;exact tj this H
 | 2,h2=>have:=gv h2;exact tj this H
 | i+3,h2=>
  have e1:My (i+3)=[6,7]:=by unfold My;exact D (sH (by exact tY [3,0] 0x10802400441 H)) (D (sH (by exact tY [3] 0x802400421 H)) H)
  have e2:My (i+3+1)=[6,7]:=by unfold My;exact D (sH (by exact tY [3,1,0] 0x104210048000441 H)) (D (sH (by exact tY [3,1] 0x4210048000421 H)) H)
  exact D e1 (D e2 (D (sI (by rcases h1 with e | e<;>refine D e ?_<;>decide)) H))
noncomputable def YO.ZA(cp c2:sE)(z:sF LV×sF LV):uZ:=[J (Y cp),J .none,J (Y c2),z.1,z.2,sD,sD,sD,sD,sD,sD]
theorem Uc{p:sE×M×V M}(h:yr (pl.map (·.2)) w0 t y ps)(hp:pl[i]?=J p)(O:sX E s [(c2,f1 (sL (My i)))])
  (hK:∀z s,sX E s [(c2,f1 (sL (My (i+1))))]->Kb .next (YO.ZA cp c2 z) s):yi (YO.ZA cp c2 (J (g3 (tx p.2.1)),y4)) s Kb:=by
 refine xA (Ub h hp) λh6 hs=>cL (Ua h6 H) (λq=>ft q) λø=>sP (cJ (cL (rL (Z H) (Z H) (Op.ņ (h6.elim (λe=>D e (by decide)) λe=>D e (by decide):p.2.1<8) XH (O.Zu 0 H))) (λq=>?_) λq=>sP (hK _ s ?_)))
 .have q:=RK q;rw[sH q]at hs;refine cU O 0 H (v:=g3 (tx p.2.1)) (Z H) (Z H) ?_ λs O=>hK _ s (D hs (tj Ik O))
  refine D AR ?_;unfold My
  split
  .exact gE _
  .split<;>exact gQ H
 .rw[sI (U8 q)]at hs;exact D hs O
noncomputable abbrev Nw(pl:WG)(i:M)(w:V M)(ts:V M):Prop:=ts.Nodup/\(∀t∈ts,t=3\/t=4)/\(∀p∈pl.take i,∀X∈p.2.2,X=3\/X=4->X∈ts)/\∀X∈w,X=3\/X=4->X∈ts
def Nw.nd(h:Nw pl i w ts):=h.1
def Nw.sub(h:Nw pl i w ts):=h.2.1
def Nw.has(h:Nw pl i w ts):=h.2.2.1
def Nw.now(h:Nw pl i w ts):=h.2.2.2
theorem Nw.len(h:Nw pl i w ts):R ts<=2:=tP (m:=[3,4]) h.nd λt ht=>by rcases h.sub t ht with rfl | rfl<;>decide
noncomputable def XI.ZA(cp c2 c6:sE)(z:sF LV×sF LV×sF LV):uZ:=[J (Y cp),J .none,J (Y c2),z.1,z.2.1,J (g3 "s"),J (Y c6),z.2.2,sD,sD,sD]
noncomputable def Jn(c2 c6:sE)(ts:V M):V (sE×LO):=[(c6,f1 (sL ([0,1,2]++ts))),(c2,f1 (sL [6,7]))]
theorem Ud(hX:RE X)(O:sX E s (Jn c2 g ts))(I:Nw pl i w ts)(hK:∀ts s,sX E s (Jn c2 g ts)->Nw pl i (w++[X]) ts->Kb .next (XI.ZA cp c2 g (y12,y4,J (g3 (tx X)))) s):w9 (XI.ZA cp c2 g (y12,y4,J (g3 (tx X)))) s Kb:=by
 have h8:X<8:=by unfold RE at hX;lia
 have Η:∀sC∈[0,1,2]++ts,sC<8:=λsC hY=>by
  rcases gP.mp hY with hY | hY
  .have:∀sC∈[0,1,2],sC<8:=by decide
   exact this sC hY
  .rcases I.sub sC hY with rfl | rfl<;>decide
 refine cL (rO (rL (Z H) (Z H) (Op.ņ h8 (w:=[6,7]) (by decide) (O.Zu 1 H))) λø=>rQ (rL (Z H) (Z H) (Op.ņ h8 Η (O.Zu 0 H)))) (λq=>?_) λq=>sP (hK ts s O ⟨I.nd,I.sub,I.has,λsC hY ô=>?_⟩)
 .refine xA ((jn ..).mp q) λq1 q2=>?_
  have q1:=RK q1;have q2:=RK q2
  have ô:X=3\/X=4:=by
   rcases hX with e | e | e | e
   .exact .inl e
   .exact .inr e
   .exact absurd (e▸gI) q1
   .exact absurd (e▸gH _ gI) q1
  refine cU O 0 H (v:=g3 (tx X)) (Z H) (Z H) (by refine D AR (D gK (?_:3+_<=_));exact tY [2,3,16777215] 0x41204200900120402 H I.len) λs O=>hK (ts++[X]) s (by unfold Jn;(rewrite[<- gW];refine tj Ik ?_);exact O) ⟨?_,λt ht=>?_,λp hp sC hY h=>gV _ (I.has p hp sC hY h),λsC hY h=>?_⟩
  .exact iP.mpr (uS I.nd (u5 _) (λa ha b hb e=>(λh=>q2 (gU _ h):X∉ts) (by rw[gJ]at hb;exact(e.trans hb)▸ha)))
  .rcases gP.mp ht with ht | ht
   .exact I.sub t ht
   .exact D (gJ.mp ht) ô
  .rcases gP.mp hY with hY | hY
   .exact gV _ (I.now sC hY h)
   .exact D (gJ.mp hY) (gU _ (iE _))
 .rcases gP.mp hY with hY | hY
  .exact I.now sC hY ô
  .have hY:=gJ.mp hY;subst hY;have q1:sC∉[6,7]:=by rcases ô with rfl | rfl<;>decide
   rw[sT q1,n4,Bool.not_false,Bool.true_and]at q;have q2:=U8 q
   rcases gP.mp q2 with q2 | q2
   .have:=(by decide:∀bv∈[0,1,2],bv≠3/\bv≠4) sC q2;exact(ô.elim this.1 this.2).elim
   .exact q2
noncomputable def Ue(n:M)(w:V M):al:=w.foldl (λz X=>if X<n then (X:al) else z) (-1)
theorem GV:Op (yx [f2 (nL w),f0 t]) E (f0 (Ue t w)):=λK k=>by
 refine Fq (cI (v:=f0 (Ue t [])) (rF rD rW) (sP (cJ (dV (loc:=λz:al×sF LV=>[J (f2 (nL w)),J (f0 t),J (f0 z.1),z.2]) (z0:=(Ue t [],sD)) (vs:=nL w) (λi z s=>s=E/\z.1=Ue t (w.take i)) (Z H) ⟨H,H⟩ (λi v z s K' hv rC hK=>?_) λz s rC=>sP ?_))))
 .refine Bt v (wa hv) λX hX=>?_
  (refine xA rC λe9 hz=>?_;refine D e9 ?_)
  have e1:Ue t (w.take (i+1))=if X<t then (X:al) else Ue t (w.take i):=by unfold Ue;exact D (tF hX) (D mQ H)
  refine cL (rL (Z H) (Z H) rX) (λq=>?_) λq=>sP (hK .next _ _ (tC (z.1,J (f0 X)) H rfl ?_))
  .exact cI (Z H) (sP (sP (hK .next _ _ (tC ((X:al),J (f0 X)) H rfl (D e1 (D (sI (g8.mp (sQ q))) H))))))
  .exact D e1 (D (sH λh=>sW q (g8.mpr h)) hz)
 ·(refine xA rC λe9 hz=>?_;refine D e9 ?_)
  rw[sU,ic]at hz;exact cP (Z H) (D hz k)
noncomputable def XJ(G:Gm)(r:M):LV:=if r=0 then f0 0 else f0 (Ue G.aa (G.Zv r))
noncomputable def Ya(G:Gm)(r:M):V LV:=[f0 r,f0 (G.ZE r),f2 (nL (G.Zv r)),XJ G r,.none,f0 0,f0 0]
noncomputable abbrev WH:=V (sE×sE)
noncomputable def Mk(G:Gm)(rl:WH):V (sE×LO):=rl.mapIdx λr q=>(q.1,f4 87 q.2 (Ya G r))
noncomputable def Jo(rl:WH):V LV:=rl.map λq=>Y q.1
noncomputable def Ml(G:Gm)(c:sE)(rl:WH):V (sE×LO):=(c,f1 (Jo rl))::Mk G rl
theorem Gr(O:sX E s ((a,f4 87 d [])::pre))(k:∀s',sX E s' ((a,f4 87 d [b,v,ZM,sy,.none,f0 0,f0 0])::pre)->K .none s'):ya [Y a,b,v,ZM,sy] s K:=
 Ht (cS O 0 H (Z H) (Z H) (gE _) λs O=>cS O 0 H (Z H) (Z H) (gC 1) λs O=>cS O 0 H (Z H) (Z H) (gC 2) λs O=>cS O 0 H (Z H) (Z H) (gC 3) λs O=>cS O 0 H (Z H) (Z H) (gC 4) λs O=>cS O 0 H (Z H) (Z H) (gC 5) λs O=>cS O 0 H (Z H) (Z H) (gC 6) λs O=>k s O)
theorem Ug{rl:WH}:Mk G (rl++[(a,d)])=Mk G rl++[(a,f4 87 d (Ya G (R rl)))]:=by unfold Mk;refine D nT (?_:_++[(a,f4 87 d (Ya G (0+R rl)))]=_);exact D (iB _) H
theorem XK{rl:WH}(h:rl[r]?=J (a,d)):(a,f4 87 d (Ya G r))∈Mk G rl:=by
 refine gz (i:=r) (D (kK) (D h ?_));rfl
noncomputable def YP.ZA(cp c2 c6 c9:sE)(n:M)(y:sF LV)(z:sF LV×sF LV×sF LV):uZ:=[J (Y cp),J .none,J (Y c2),z.1,z.2.1,J (g3 "s"),J (Y c6),y,J (f0 n),J (Y c9),z.2.2]
theorem YQ(h:∀b∈ts,b=3\/b=4):∀sC∈NC ts,sC<8:=λsC hY=>by
 rcases gP.mp hY with hY | hY
 .rcases gP.mp hY with hY | hY
  .exact(by decide:∀sC∈[0,1,2],sC<8) sC hY
  .rcases h sC hY with rfl | rfl<;>decide
 .exact(by decide:∀sC∈[5,6,7],sC<8) sC hY
theorem Wi(h:yr (pl.map (·.2)) w0 i y ps):R pl<=4:=by
 have:=sJ jr h.ai;rw[gy]at this;exact tD [1,4] 0x84812002008025000040880128403 H h.bV (this:R pl=R ps+1+1+1)
theorem Uh{rl:WH}(ci:OB E cp pl w0 t y ps)(hT:AS (pl.map (·.2)) ts)(h6:E g=J (f1 (sL (NC ts)))){p:sE×M×V M}(hp:pl[i]?=J p)(Z2:R rl=i+1)(O:sX E s (Ml (gm (pl.map (·.2)) ts) l rl))
  (hK:∀a d z s,sX E s (Ml (gm (pl.map (·.2)) ts) l (rl++[(a,d)]))->Kb .next (YP.ZA cp c2 g l (3+R ts) y7 z) s):yj (YP.ZA cp c2 g l (3+R ts) y7 (J (g3 (tx p.2.1)),J (Y p.1),y12)) s Kb:=by
 have a?:=gz hp;have Z6:(pl.map (·.2))[i]?=J p.2:=by refine D (gG) (D hp ?_);rfl
 refine xA (Dy (ts:=ts) Z6) λg1 g2=>?_
 have h8:=YQ hT.sub;have lm:=ci.ok.ZT (iD a?);refine cQ (dU (cC (Kw (xs:=p.2.2) (f:=λX=>g3 (tx X)) (h:=λX=>f0 (ix ts X:M)) H (Z H) (O.le _ _ (ci.ao p a?)) (tY [3,16777215] 0x4240900120402 H lm.2.1) (λj X y hX=>?_) λc hc=>cH ?_)))
 .have hm:=(λX hX=>(hT.sym ci.ok (iD a?) (X:=X) hX).2.2.2) X (gz hX);exact Ev.callB (Z H) (dk (O.le _ _ h6)) (cE (Z H) cF) (Op.ő (h8 X hm) h8 hm (O.le _ _ h6))
 have e1:(p.2.2.map λX=>f0 (ix ts X:M))=nL ((gm (pl.map (·.2)) ts).Zv (i+1)):=by refine D g2 ?_;unfold nL;exact D iS H
 refine D e1 ?_;have O:=O.new (o:=f1 (nL ((gm (pl.map (·.2)) ts).Zv (i+1)))) hc;refine Op.Ĥ (O.Zu 0 H) (D (sU _) (D sS (tY [3,16777216] 0x4240900120402 H (by exact D g2 (D (gy _) lm.2.1):R ((gm (pl.map (·.2)) ts).Zv (i+1))<=3)))) _ (?_);have O:=O.tail;have ć:p.2.1∈NC ts:=gU _ (by rcases lm.1 with e | e<;>refine D e ?_<;>decide);have el:(R (Jo rl):al)=(i+1:M):=by unfold Jo;exact D (gy _) (D Z2 H)
 refine cJ (dD (dA (Z (v:=Y l) H _ ⟨dk (O.Zu 0 H),cC (dS O (vs:=[f0 (i+1:M),f0 ((gm (pl.map (·.2)) ts).ZE (i+1):M),f2 (nL ((gm (pl.map (·.2)) ts).Zv (i+1))),f0 (Ue (3+R ts) ((gm (pl.map (·.2)) ts).Zv (i+1)))]) (cE (tj el (rJ (cE (Z H) cF) (sa (O.Zu 0 H)))) (cE (D g1 (Ev.callB (Z H) (dk (O.le _ _ h6)) (cE (Z H) cF) (Op.ő (h8 _ ć) h8 ć (O.le _ _ h6)))) (cE (Z H) (cE (rI (cE (Z H) (cE (Z H) cF)) GV) cF)))) λa d s O=>Gr O λs O=>⟨H,cH ?_⟩)⟩)));refine dP (O.Zu 1 H) (by unfold Jo;exact D (gy _) (uy [1,4,16777215] 0x41204862842109820004a020444 H Z2 (Wi ci.ok) ((gB.mp hp).1))) (hK a d (J (g3 (tx p.2.1)),J (Y p.1),J (f2 (nL ((gm (pl.map (·.2)) ts).Zv (i+1))))) _ ?_);refine jD ?_ ((O.set 1 H (f1 (Jo rl++[Y a]))).perm (km _ _).symm)
 congr 1
 unfold Ml;refine D Ug (D Z2 ?_);unfold Jo;exact D gF H
theorem Wj(ci:OB E cp pl w0 t y ps)(hT:AS (pl.map (·.2)) ts)(h6:E c=J (f1 (sL (NC ts))))(k:∀g t s',Le E s'->GX s' g (gm (pl.map (·.2)) ts) t->OA E t->K (Y g) s'):yU [J (Y cp),J .none,J (Y c2),y12,y4,J (g3 "s"),J (Y c),y7,J (f0 (3+R ts:M)),sD,sD] E (tB K):=by
 have ć:6∈NC ts:=gU _ (by decide);have e6:∀{ρ s},ρ[6]?=J (J (Y c))->ρ[5]?=J (J (g3 "s"))->s c=J (f1 (sL (NC ts)))->Ev (qV qT qY (U 6) (pL (U 5) pK)) ρ s (f0 (ix ts 6:M)):=λh1 h2 h3=>Ev.callB (Z h1) (dk h3) (cE (Z h2) cF) (Op.ő (X:=6) ((YQ hT.sub) _ ć) (YQ hT.sub) ć h3)
 refine cQ (cV (cC (dS (sX.init E) (vs:=[f0 (0:M),f0 (3+R ts:M),f2 (nL [ix ts 6,0]),f0 0]) (cE rD (cE (Z H) (cE (cW (e6 H rfl h6) rD) (cE rD cF)))) λa d s O=>Gr O λs O=>⟨H,cH ⟨gQ H,λc9 ű=>sP ?_⟩⟩)));have O:=O.new (o:=f1 [Y a]) ű;have O:sX E (ur s c9 (f1 [Y a])) (Ml (gm (pl.map (·.2)) ts) c9 [(a,d)]):=O;refine dM (loc:=YP.ZA cp c2 c c9 (3+R ts) y7) (z0:=(y12,y4,sD)) (l:=cp) (vs:=Jj pl) (λi ø s=>∃rl,R rl=i+1/\sX E s (Ml (gm (pl.map (·.2)) ts) c9 rl)) (Z H) (λi z s rC=>rC.elim λrl rC=>rC.2.le _ _ ci.aB) (ti _ H O) (λi v z s K1 hv rC ZW=>?_) λz s rC=>sP ?_
 .unfold Jj at hv;rw[gG]at hv;exact vp v (gR.mp hv) λp hp=>s9 rC λrl Z2 O=>(w1 _ _ H (Uh ci hT h6 hp Z2 O λa d z s O=>ZW .next _ _ (vA z H (rl++[(a,d)]) (D gK (D Z2 H)) O)))
 .refine s9 rC λrl Z2 O=>?_
  rw[As]at Z2;refine cZ (eG (cC (cG H (cC (cG H (cC (cG H (cC (fz λlv ZB=>cC (dh (cC (e6 H rfl (Le.new ZB _ _ (O.le _ _ h6)) _ (cH λg dg hg ø ø=>(Im (G:=gm (pl.map (·.2)) ts) (ra:=rl.map (·.1)) (Kz hT ci.ok).toSm ⟨?_,?_,?_,λr a ha=>?_⟩ ((sX.init (ur s lv (f8 []))).new (o:=f4 169 dg []) hg) λt s' Z7 hG fr=>⟨H,k g t s' ((O.le.trans (Le.new (o:=f8 []) ZB)).trans Z7) hG (fr.Zz (O.le.trans (Le.new (o:=f8 []) ZB)))⟩))))))))))))))
  .exact D ((O.le.trans (Le.new (o:=f8 []) ZB)) _ _ h6) (D iS H)
  .exact D (Le.new ZB _ _ (O.Zu 0 H)) (D iS H)
  .refine(?_:R (rl.map _)=R ((pl.map (·.2)).map λp=>(ix ts p.1,p.2.map (ix ts)))+1);exact D (gy _) (D (gy _) (D (gy _) (D Z2 H)))
  .rw[gG]at ha;exact vp a (gR.mp ha) λq hq=>(KD q.2 (XJ _ r) (Le.new ZB _ _ (O.ZT _ (gH _ (XK hq))).1))
theorem Wk(ci:OB E cp pl w0 t y ps)(hi:i=R pl)(I:Nw pl i w ts)(O:sX E s (Jn c2 a ts)){z:sF LV×sF LV×sF LV}(k:∀g t s' ts,AS (pl.map (·.2)) ts->Le E s'->GX s' g (gm (pl.map (·.2)) ts) t->OA E t->K (Y g) s'):yV (XI.ZA cp c2 a z) s (tB K):=by
 have hT:AS (pl.map (·.2)) ts:=⟨I.nd,I.sub,λp hp=>by
  exact vp p (gL.mp hp) λq hq=>I.has q (by exact D hi (D ic hq))⟩
 refine cI (v:=f0 (3+R ts:M)) (tj (by exact D AR (D gK H):(R (sL ([0,1,2]++ts)):al)=(3+R ts:M)) (rJ (cE (Z H) cF) (sa (O.Zu 0 H)))) (sP (cQ (dB (dB (cG H (cV (cC (dh (cH ⟨gQ H,λc hc=>?_⟩)))))))));have O:=O.new (o:=f1 (sL [5])) hc;refine ei O 1 0 H rfl (by refine D AR (D AR (D gK (D sS (?_:3+_+1<=_))));exact tY [2,3,1,16777216] 0x308824084000900120402 H I.len) λc7 s O=>cG H ?_
 refine ei O 0 3 H rfl (by refine D gK (D AR (D AR (D AR (D gK (D sS (?_:3+_+1+2<=_))))));exact tY [2,3,1,16777216] 0x1840110481080000900120402 H I.len) λc8 s O=>?_
 have h8:s c8=J (f1 (sL (NC ts))):=by
  have:=O.Zu 0 H;rw[Ik,Ik]at this;exact D this (D (gW _ [5] [6,7]) H)
 exact Wj (ci.Zz O.le) hT h8 λg t s' hle hG fr=>k g t s' ts hT (O.le.trans hle) hG (fr.Zz O.le)
theorem XM(h:mo ρ s K):L.Æ (λt s1=>if t then e ρ s1 K else mo ρ s1 K) (ii Zt) s:=h
theorem GW(ci:OB E cp pl w0 m y ps)(k:∀g m s' ts,AS (pl.map (·.2)) ts->Le E s'->GX s' g (gm (pl.map (·.2)) ts) m->OA E m->K (Y g) s'):xb [Y cp] E K:=by
 refine DI (dC (sX.init E) λc2 s O=>(dM (loc:=YO.ZA cp c2) (z0:=(sD,sD)) (l:=cp) (vs:=Jj pl) (λi ø s=>sX E s [(c2,f1 (sL (My i)))]) (Z H) (λi z s O=>O.le _ _ ci.aB) O (λi v z s K1 hv O ZW=>?_) λz s O=>sP ?_))
 .unfold Jj at hv;rw[gG]at hv;exact vp v (gR.mp hv) λp hp=>(w1 _ _ H (Uc ci.ok hp O λz s O=>ZW .next _ _ (ti z H O)))
 .have hlen:3<=R pl:=by
   have:=sJ jr ci.ok.ai;rw[gy]at this;have:R pl=R ps+1+1+1:=this;exact tD [1,3] 0x102109001004012800020462 H this
  rw[As,show My (R pl)=[6,7] by unfold My;exact D (sH (by exact tY [3,0] 0x4240888008402 H hlen)) (D (sH (by exact tY [3] 0x240848008402 H hlen)) H)]at O;refine cQ (f5 (eS (rL (Z (v:=.none) H) rD (sg (y:=.none)) _ (Cb (eE (L.KT (cG H ⟨gE _,λc hc=>?_⟩)))))));have h2:=(O.new (o:=f1 []) hc).Zu 1 H;have h0:=(O.new (o:=f1 []) hc).Zu 0 H;have O:=O.Zz (Le.new (o:=f1 []) hc);generalize ur s c (f1 [])=s at O h2 h0;refine(?_:qk Zt (Y c2) (Y c) s _);unfold qk;simp only[h2,h0];refine⟨.inl (by decide),?_⟩
  refine D (lK _) (D (sT (show sL [6,7]≠[] from λh=>by exact(sN kL h).elim)) (XM (rE (Z H) rD (r5 (n:=0) h2 H) _ (sP (cL (t:=Zt) (rL (Z H) (Z H) (by
   have:=Op.ņ (neg:=pH) (X:=6) (w:=[6,7]) (by decide) (by decide) h2;rw[sM (by decide)]at this;exact this)) (λq=>by exact ft q) λø=>sP ?_)))))
  refine cQ (dU (cC (dh (cH (fJ (by exact D sS (gQ H)) λc6 No=>sP ?_)))));have O:=O.new (o:=f1 (sL ([0,1,2]++[]))) No;refine dM (loc:=XI.ZA cp c2 c6) (z0:=(z.1,z.2,sD)) (l:=cp) (vs:=Jj pl) (λi ø s=>∃ts,sX E s (Jn c2 c6 ts)/\Nw pl i [] ts) (Z H) (λi z s rC=>rC.elim λts rC=>rC.1.le _ _ ci.aB) (ti ([]) O ⟨iU,λt ht=>uG ht,λp hp=>uG hp,λX hX=>by cases hX⟩) (λi v z s K1 hv rC ZW=>?_) λz s rC=>sP ?_
  .unfold Jj at hv;rw[gG]at hv;refine vp v (gR.mp hv) λp hp=>s9 rC λts O I=>(w1 _ _ H (dq (loc:=λz7=>XI.ZA cp c2 c6 (J (g3 (tx p.2.1)),J (Y p.1),z7)) (z0:=z.2.2) (l:=p.1) (vs:=sL p.2.2) (λj ø s=>∃ts,sX E s (Jn c2 c6 ts)/\Nw pl i (p.2.2.take j) ts) (Z H) (λj z s rC=>rC.elim λts rC=>rC.1.le _ _ (ci.ao p (gz hp))) (ti ts O I) (λj v z s K2 hv rC Ū=>?_) λz s rC=>sP ?_))
   .unfold sL at hv;rw[gG]at hv;exact vp v (gR.mp hv) λX hX=>s9 rC λts O I=>Ud ((ci.ok.ZT (iD (gz hp))).2.2 X (gz hX)) O I λts s O I=>Ū .next _ _ (vA (J (g3 (tx X))) H ts O (by exact D (tF hX) I))
   .refine s9 rC λts O I=>?_
    rw[AR,ic]at I;refine ZW .next _ _ (vA (J (g3 (tx p.2.1)),J (Y p.1),z) H ts O ⟨I.nd,I.sub,λq hq=>?_,λX hX=>by cases hX⟩);rw[tF hp]at hq;refine(gP.mp hq).elim (λhq=>?_) λhq=>?_
    .exact I.has q hq
    .exact D (gJ.mp hq) I.now
  .refine s9 rC λts O I=>?_
   rw[As]at I;exact Wk ci H I O k
theorem RQ(inv:M->V LV->LH->Prop)(h0:inv 0 [] s)(hx:∀i a s,i<=R vs->inv i a s->nx i s=J vs[i]?)(hz:R vs<=2 ^ 24 - 1)
  (step:∀i v acc s (Ky:LV->LH->Prop),vs[i]?=J v->R acc=i->inv i acc s->(∀x E,inv (i+1) (acc++[x]) E->Ky x E)->∃x y,v=f2 [x,y]/\mo [J x,J y] s Ky)
  (fin:∀acc s,R acc=R vs->inv (R vs) acc s->∀c,s c=sD->KE (Y c) (ur s c (f1 acc))):HP 2 [] (qG 0 1) pV mo ρ KE nx s:=by
 refine HO (λi=>vs[i]?) (λi acc ρ s=>R acc=i/\inv i acc s/\∃x y,ρ=[x,y]) ⟨H,h0,sD,sD,H⟩ (λi=>jg) (λi a ρ s hi h=>hx i a s hi h.2.1) (λi v acc ρ s hv ⟨hl,hi,x,y,hr⟩=>?_) λacc ρ s ZN=>zY ZN λhl h ø=>fin acc s hl h
 refine D hr ?_
 (refine vX (step i v acc s (λø ø=>True) hv hl hi λø ø ø=>trivial) λx' y' e9 ø=>?_;subst e9)
 refine(ti _ H (λKy Kn hy ø=>(vX (step i _ acc s Ky hv hl hi λx E h=>hy x E (AV (uy [16777215] 0x24090a6084c40880128404 H hz hl ((gB.mp hv).1)) (by exact D gK (D hl H)) h (KD _ _ H))) λx2 y2 e h=>?_)));injection e with e
 injection e with e1 e
 injection e with e2 _
 subst e1 e2;exact PF (B:=Kn s) h
theorem L.Γ(O:sX E s pre)(i:M)(e1:pre[i]?=J (c,f1 vs))(he:Ev e ρ s (Y c))(k:∀s',sX E s' pre->KB (b8 (vs=[])) s'):pX (qk Zt) e (pM pK) ρ s KB:=by
 refine he _ ⟨gE _,λc' ul=>?_⟩;unfold qk;simp only[tR (Ur (O.Zu i e1) ul:c≠c'),te,(O.Zu i e1)];refine⟨?_,?_⟩
 .cases vs with
  | nil=>exact .inr ⟨H,H⟩
  | cons v vs=>exact .inl (by simp)
 .exact D (lK _) (k _ (O.Zz (Le.new ul)))
theorem sX.app(h:sX ZJ s pre)(h':sX s E l1):sX ZJ E (l1++pre):=by
 refine⟨h.le.trans h'.le,?_,λp hp=>?_⟩
 .refine D gF (iP.mpr (uS h'.nd h.nd (λa ha b hb e=>?_)))
  (refine s9 (gL.mp ha) λp hp e9=>?_;subst e9)
  refine s9 (gL.mp hb) λq hq ñ=>?_;subst ñ
  have h1:=(h'.ZT p hp).2;rw[e,(h.ZT q hq).1]at h1;exact E9 h1
 .rcases gP.mp hp with hp | hp
  .exact⟨(h'.ZT p hp).1,h.le.none (h'.ZT p hp).2⟩
  .exact⟨h'.le _ _ (h.ZT p hp).1,(h.ZT p hp).2⟩
noncomputable def PC(s:LH)(pn:sE):LH:=λa=>if a=pn then sD else s a
theorem Ny(h:s a=J o)(hn:a≠pn):PC s pn a=J o:=by unfold PC;exact D (sH hn) h
theorem Wl:Le (PC s pn) s:=λa o h=>by
 unfold PC at h
 split at h
 .exact uH h
 .exact h
theorem Ui(h:s pn=J (zX pn hs m).2):sX (PC s pn) s [zX pn hs m]:=
 ⟨Wl,u5 _,λp hp=>by
  refine D (gJ.mp hp) ?_;exact⟨h,by unfold PC;exact D (sI (show(zX pn hs m).1=pn from H)) H⟩⟩
noncomputable def OC(o:LO):Prop:=∀hs m:al,o≠f1 [f0 hs,f0 m]
theorem xp(hp:s pn=J (zX pn hs m).2)(h:s a=J o)(hn:OC o):PC s pn a=J o:=Ny h λe=>by
 rw[e,hp]at h;exact hn hs m (gv h).symm
theorem D7{α:Type}{f:α->LV}{xs:V α}(h:∀a i,f a≠f0 i):OC (f1 (xs.map f)):=λz m e=>by
 injection e with e
 cases xs with
 | nil=>exact(sN kL e).elim
 | cons x xs=>
  rw[iN]at e;injection e with e _
  exact h x z e
theorem E7:OC (f4 c d fs):=λø ø e=>(sN LO.ctorIdx e).elim
theorem OF:OC (f8 Zy):=λø ø e=>(sN LO.ctorIdx e).elim
theorem Mm(hle:Le E s)(hp:E pn=J o')(ha:E a=sD)(h:s a=J o):PC s pn a=J o:=Ny h λe=>by rw[e,hp]at ha;exact E9 ha
theorem GX.del{st:LH}(h:GX s g G x)(hp:s pn=J (zX pn d7 m).2)(hle:Le st s)(hs:st pn=J o')(fr:OA st x):GX (PC s pn) g G x:=
 ⟨xp hp h.hg E7,xp hp h.KF (D7 λø ø e=>(sN LV.ctorIdx e).elim),xp hp h.Z2 (D7 λø ø e=>(sN LV.ctorIdx e).elim),h.ν,λr a e=>KC (h.ru r a e) λd ZM q=>⟨d,ZM,xp hp q E7⟩,xp hp h.Ŗ (D7 λø ø e=>(sN LV.ctorIdx e).elim),h.š,λX a e=>Mm hle hs (fr.bl X a e) (h.bl X a e),Mm hle hs fr.Û h.î,Mm hle hs fr.ow h.how⟩
theorem AX.del{st:LH}(h:AX s a g da d G S)(hp:s pn=J (zX pn d7 m).2)(hle:Le st s)(hs:st pn=J o')(fr:∀(q:M) r,S[q]?=J r->st r.ia=sD/\st r.aY=sD):AX (PC s pn) a g da d G S:=
 ⟨xp hp h.ar E7,xp hp h.aB (D7 λø ø e=>(sN LV.ctorIdx e).elim),λq r hr=>D9 (h.ay q r hr) λh1 h2 h3 h4=>⟨xp hp h1 E7,Mm hle hs (fr q r hr).1 h2,xp hp h3 OF,Mm hle hs (fr q r hr).2 h4⟩⟩
theorem VX.del{st:LH}(h:VX s c d g a da l nu ad G S be)(hp:s pn=J (zX pn d7 m).2)(hle:Le st s)(hs:st pn=J o')(fr:∀(q:M) r,S[q]?=J r->st r.ia=sD/\st r.aY=sD):VX (PC s pn) c d g a da l nu ad G S be:=
 ⟨xp hp h.ar E7,h.ax.del hp hle hs fr,xp hp h.cs (D7 λø ø e=>(sN LV.ctorIdx e).elim),xp hp h.mm OF⟩
theorem HX.del(h:HX s cr G ca)(hp:s pn=J (zX pn hs m).2):HX (PC s pn) cr G ca:=
 ⟨xp hp h.aB (D7 λø ø e=>(sN LV.ctorIdx e).elim),λr hr=>xp hp (h.ao r hr) (D7 λø ø e=>(sN LV.ctorIdx e).elim),h.nm⟩
theorem Uj(hl:s cp=J (f1 (Jj pl)))(hr:∀p∈pl,s p.1=J (f1 (sL p.2.2)))(hz:R pl<=100)(Ã:∀p∈pl,R p.2.2<=100)(O:sX E s pre)(hv:ρ[2]?=J (J (Y cp)))(k:∀c GM s',GM.map (·.2)=pl.map (·.2)->sX E s' ((c,f1 (Jj GM))::(Mf GM++pre))->KE (Y c) s') :
  rg (qJ (U 2)) 2 [] (qG 0 1) pV (pN (pL (U 0) (pL (rz qO (pL (U 1) pK)) pK))) ρ s KE:=by
 refine dJ (cX (Z hv _ (Gk hl (RQ (vs:=Jj pl) (λi acc s'=>∃GM,acc=Jj GM/\GM.map (·.2)=(pl.take i).map (·.2)/\Le s s'/\sX E s' (Mf GM++pre)) (wU ([]) H rfl (Le.refl _) O) (λi a s' hi rC=>?_) (D As (tY [100,16777215] 0x4240900120402 H hz)) (λi v acc s' Ky hv hi rC hy=>?_) λacc s' hl rC c hc=>?_))))
 .refine yf rC λGM ø ø hle ø=>?_
  unfold qD;exact D (hle _ _ hl) H
 ·(refine yf rC λGM e9 e hle O=>?_;subst e9)
  unfold Jj at hv;rw[gG]at hv;refine vp v (gR.mp hv) λp hp=>(w1 _ _ H (d6 (cC (cG H (cC (dU (cC (cG H (cH (eH (hle _ _ (hr p (gz hp))) (by refine D AR (D sS ?_);exact tY [100,16777216] 0x4240900120402 H (Ã p (gz hp))) λa ha=>cH ⟨gQ H,hy _ _ (wU (GM++[(a,p.2)]) (by unfold Jj;exact D gF H) (D gF (D e (D (tF hp) (D gF H)))) (hle.trans (Le.new ha)) ?_)⟩))))))))))
  have O:=O.new (o:=f1 (sL p.2.2)) ha;refine O.perm ?_;unfold Mf
  (refine D gF ?_;rewrite[gW])
  exact List.perm_middle.symm
 ·(refine yf rC λGM e9 e hle O=>?_;refine D e9 ?_)
  rw[As,ic]at e;exact k c GM _ e (O.new hc)
theorem RR(h:s a=J (q.aM g)):Op (wz [Y a]) s (f2 q.aR):=λK k=>
 FJ (cP (rG (cE (rH (Z H) (rT h H)) (cE (rH (Z H) (rT h H)) (cE (rH (Z H) (rT h H)) (cE (rH (Z H) (rT h H)) (cE (rH (Z H) (rT h H)) cF))))) (gQ H)) k)
theorem Jp:∀{qs:CL},uT 3 (qs.map λq=>f2 q.2.2.aR)=pH
 | []=>rfl
 | q::qs=>by
  refine(?_:(xC 3 (f2 q.2.2.aR)&&uT 3 (qs.map λq=>f2 q.2.2.aR))=pH);refine D (Jp (qs:=qs)) (D (n5 _) (?_:(pH&&(pH&&(jI (IJ q.2.2.aU)&&(uT 1 (nL q.2.2.rs)&&pH))))=pH));have h1:jI (IJ q.2.2.aU)=pH:=by cases q.2.2.aU<;>decide +kernel
  have h2:∀w:V M,uT 1 (nL w)=pH:=λw=>by
   induction w with
   | nil=>rfl
   | cons a w ih=>exact ih
  exact D h1 (D (h2 _) H)
structure Uk where
 aD:sE
 v:sE
 au:sE
 ae:sE
 bR:sE
 ls:sE
 cs:sE
 mka:sE
 cr:sE
 sc:sE
 br:sE
 bP:sE
variable {j7:Uk}
noncomputable abbrev IP(st:LH)(G:Gm)(S:V SR)(be:V ((M×M)×M))(A:Uk)(x:GA)(ca:M->sE):Prop:=GX st A.aD G x/\G.ZU/\x4 G S/\F7 G S be/\VX st A.v A.au A.aD A.ae A.bR A.ls A.cs A.mka G S be/\HX st A.cr G ca
def IP.gx(h:IP s G S be j7 x ca):=h.1
def IP.fit(h:IP s G S be j7 x ca):=h.2.1
def IP.χ(h:IP s G S be j7 x ca):=h.2.2.1
def IP.M_(h:IP s G S be j7 x ca):=h.2.2.2.1
def IP.bK(h:IP s G S be j7 x ca):=h.2.2.2.2.1
def IP.hx(h:IP s G S be j7 x ca):=h.2.2.2.2.2
theorem IP.Zz(h:IP E G S be j7 x ca)(l:Le E s):IP s G S be j7 x ca:=⟨h.gx.Zz l,h.fit,h.χ,h.M_,h.bK.Zz l,h.hx.Zz l⟩
noncomputable def Mn:Prop:=∀(G:Gm) S be F,G.ZU->x4 G S->F7 G S be->G3 G F->∀q,zW G S be q->U3 G S F q
noncomputable def Uk.ZA(A:Uk)(c6 c8 c9:sE)(p:al)(y10 y11 y12:sF LV):uZ:=[J (Y A.sc),J (Y A.br),J (Y A.bP),J (Y A.aD),J (Y A.v),J (Y A.cr),J (Y c6),J (f0 p),J (Y c8),J (Y c9),y10,y11,y12]
noncomputable abbrev KO(st:LH)(G:Gm)(S:V SR)(F:M->M)(be:V ((M×M)×M))(qs:CL)(rl:V (sE×V Ee))(c8 c9:sE):Prop:=st c8=J (f1 (wh qs))/\st c9=J (f1 (Ry qs rl))/\(∀q∈qs,st q.1=J (q.2.2.aM q.2.1)/\zW G S be q.2.2)/\R rl=R qs/\(∀(j:M) q r,qs[j]?=J q->rl[j]?=J r->EX G S F st q.2.2 r.1 r.2)/\G3 G F
def KO.h8(h:KO s G S F be qs rl c8 a):=h.1
def KO.h9(h:KO s G S F be qs rl c8 a):=h.2.1
def KO.aK(h:KO s G S F be qs rl c8 a):=h.2.2.1
def KO.aB(h:KO s G S F be qs rl c8 a):=h.2.2.2.1
def KO.ai(h:KO s G S F be qs rl c8 a):=h.2.2.2.2.1
def KO.af(h:KO s G S F be qs rl c8 a):=h.2.2.2.2.2
theorem KO.Zz(h:KO E G S F be qs rl c8 a)(l:Le E s):KO s G S F be qs rl c8 a:=⟨l _ _ h.h8,l _ _ h.h9,λq hq=>⟨l _ _ (h.aK q hq).1,(h.aK q hq).2⟩,h.aB,λj q r h1 h2=>(h.ai j q r h1 h2).Zz l,h.af⟩
theorem Va(hl:R rl=R qs)(h:(Ry qs rl)[i]?=J v):∃q r,qs[i]?=J q/\rl[i]?=J r/\v=f2 [Y q.1,Y r.1]:=by
 unfold Ry at h;rw[gG]at h;obtain ⟨⟨q,r⟩,h1,rfl⟩:=gR.mp h;exact(tU q r (nE.mp h1).1 (nE.mp h1).2 H)
theorem RS{q:sE×sE×Cf}{r:sE×V Ee}(ci:IP E G S be j7 x ca)(am:KO E G S F be (q::qs) (r::rl) c8 g)(k:∀s',Le E s'->K (ii pH) s'):Ll (j7.ZA a c8 g hs y10 y11 y12) E (tB K):=by
 have X:=am.ai 0 q r H rfl;refine xA (am.aK q gI) λa_ ZQ=>s9 X.it λC hC zn=>dq (loc:=λy=>j7.ZA a c8 g hs y10 y11 y) (z0:=y12) (l:=r.1) (vs:=CY r.2) (λi ø s=>Le E s) (rE (rE (Z H) rD (r5 (n:=0) am.h9 H)) rD (r8 (n:=1) H)) (λi z s hle=>hle _ _ X.aB) (Le.refl _) (λi v z s K1 hv hle ZW=>?_) λz s hle=>sP (cJ (cP rD (k s hle)))
 unfold CY at hv;rw[gG]at hv;exact vp v (gR.mp hv) λe he=>dG (eF (fj (cO (cC (cG H (cC (cG H (cC (rE (Z H) rD (r5 (n:=0) (hle _ _ am.h8) H) _ (cC (cG H (cH (E6 (ci.Zz hle).gx ci.fit ci.χ am.af (ci.Zz hle).hx ZQ (hle _ _ a_) (hle _ _ (X.ai e (gz he)).1) (X.ai e (gz he)).2 (Me.of ci.χ ZQ hC) (by refine tj zn ?_;exact iD (gz he)) λs' Z7=>Vd (Cb (sP (ZW .next _ _ (ti _ H (hle.trans Z7))))))))))))))))))
theorem PD{q:sE×sE×Cf}{r:sE×V Ee}(ci:IP E G S be j7 x ca)(am:KO E G S F be (q::qs) (r::rl) c8 g)(k:∀s',Le E s'->K (ii pH) s'):Lm (j7.ZA a c8 g hs y10 y11 y12) E (tB K):=by
 refine dM (loc:=λz:sF LV×sF LV=>j7.ZA a c8 g hs z.1 z.2 y12) (z0:=(y10,y11)) (l:=g) (vs:=Ry (q::qs) (r::rl)) (λi ø s=>Le E s) (Z H) (λi z s hle=>hle _ _ am.h9) (Le.refl _) (λi v z s K1 hv hle ZW=>?_) λz s hle=>sP (RS (ci.Zz hle) (am.Zz hle) λs' h=>k s' (hle.trans h))
 refine PN v (Va am.aB hv) λq' r' h1 h2=>xA (am.aK q' (gz h1)) λa_ ZQ=>(w1 _ _ H (dG (eF (fj (cO (cC (cG H (cC (cG H (cC (cG H (cH ?_))))))))))))
 exact GU (ci.Zz hle).gx ci.fit ci.χ (ci.Zz hle).bK (hle _ _ a_) ZQ ((am.ai i q' r' h1 h2).Zz hle) λs' Z7=>Vd (Cb (ZW .next _ _ (ti (_,_) H (hle.trans Z7))))
theorem RT{q:sE×sE×Cf}(hR:Mn)(ci:IP E G S be j7 x ca)(hz:R qs<=10)(h8:E c8=J (f1 (wh (q::qs))))(hq:∀q'∈q::qs,E q'.1=J (q'.2.2.aM q'.2.1)/\zW G S be q'.2.2)(k:∀s',Le E s'->K (ii pH) s'):NL [J (Y j7.sc),J (Y j7.br),J (Y j7.bP),J (Y j7.aD),J (Y j7.v),J (Y j7.cr),J (Y g),J (f0 hs),J (Y c8),sD,sD,sD,sD] E (tB K):=by
 refine cQ (cO (cC (cG H (cC (cG H (cH (B5 ci.gx ci.fit ci.χ ci.bK h8 (D iu (tY [10,1,1000] 0x41084800900120402 H hz)) hq (λF hF q' At=>hR G S be F ci.fit ci.χ ci.M_ hF _ (hq q' At).2) λc9 F rl s Wp hle ø h9 Z2 hE=>sP ?_)))))));cases rl with
 | nil=>exact(sN ke Z2).elim
 | cons r rl=>
  have am:KO s G S F be (q::qs) (r::rl) c8 c9:=⟨hle _ _ h8,h9,λq' At=>⟨hle _ _ (hq q' At).1,(hq q' At).2⟩,Z2,hE,Wp⟩;clear hE Z2 h9;refine dG (L.KT (dJ (cX (Z H _ (Gk am.h9 (RQ (vs:=Ry (q::qs) (r::rl)) (λi acc s'=>s'=s/\acc=((q::qs).take i).map λq=>f2 q.2.2.aR) ⟨H,H⟩ (λi a s' hi rC=>?_) ?_ (λi v acc s' Ky hv hi rC hy=>?_) λacc s' hl rC c hc=>?_))))))
  .refine D rC.1 ?_;unfold qD;exact D am.h9 H
  .unfold Ry;exact D (gy _) (D List.length_zip (D iu (D iu (gA (jK _ _) (tY [10,1,16777215] 0x41084800900120402 H hz)))))
  .obtain ⟨rfl,rfl⟩:=rC;refine PN v (Va am.aB hv) λq' r' h1 h2=>?_
   have ho:=(am.aK q' (gz h1)).1;exact(w1 _ _ H (rK (Z H) (cK ho) cF (RR ho) _ (hy _ _ ⟨H,by exact D (tF h1) (D gF H)⟩)))
  .obtain ⟨rfl,rfl⟩:=rC
   have hlz:R (Ry (q::qs) (r::rl))=R (q::qs):=by
    unfold Ry;exact D (gy _) (D List.length_zip (D am.aB (D (Nat.min_self _) H)))
   refine D hlz (D ic ?_);have O:=(sX.init s').new (o:=f1 ((q::qs).map λq=>f2 q.2.2.aR)) hc;generalize ur s' c (f1 ((q::qs).map λq=>f2 q.2.2.aR))=s at O;refine Kw (xs:=q::qs) (f:=λq=>Y q.1) (h:=λq=>f2 q.2.2.aR) H (Z H) (O.le _ _ am.h8) (D iu (tY [10,1,16777215] 0x41084800900120402 H hz)) (λi q' y h1=>?_) λc2 wP=>?_
   .exact rK (Z H) (cK (O.le _ _ (am.aK q' (gz h1)).1)) cF (RR (O.le _ _ (am.aK q' (gz h1)).1))
   .have O:=O.new (o:=f1 ((q::qs).map λq=>f2 q.2.2.aR)) wP;exact sA (O.Zu 1 H) (O.Zu 0 H) Jp _ (sP (PD ((ci.Zz hle).Zz O.le) (am.Zz O.le) λs' h=>k s' (hle.trans (O.le.trans h))))
theorem fi(O:sX E s pre)(hl:s c=J (f1 vs))(hz:R vs<=th)(ha:Jw b (R vs)=J i)(hb:Jx v (R vs)=J j)(k:∀c' s',sX E s' ((c',f1 ((vs.drop i).take (j - i)))::pre)->K (Y c') s'):L.ŋ (Y c) b v s K:=(tq vs i j (.inl hl) ha hb hz (λc' ul=>k c' _ (O.new ul)))
theorem PE{α:Type}{xs:V α}:xs.take (min 1 (R xs))=xs.take 1:=by
 cases xs with
 | nil=>rfl
 | cons x xs=>exact D iu (D (iO (mZ ..)) H)
theorem Ul(hR:Mn)(ci:IP E G S be j7 x ca)(O:sX E s (Oo [] a qs++[zX j7.br hs m]))(hm:m<=1000)(Z0:qs≠[])(ZQ:∀q∈qs,zW G S be q.2.2)(hlen:R qs<=200000)(k:∀s',Le E s'->K (ii pH) s'):NM [J (Y j7.sc),J (Y j7.br),J (Y j7.bP),J (Y j7.aD),J (Y j7.v),J (Y j7.cr),J (Y a),sD,sD,sD,sD,sD,sD] s (tB K):=by
 have lq:0<R qs:=List.length_pos_iff.mpr Z0;have Ž:R (wh qs)=R qs:=gy ..
 have hpe:(Oo [] a qs++[zX j7.br hs m])[R qs+1]?=J (zX j7.br hs m):=by
  have:R (Oo [] a qs)=R qs+1:=by refine(?_:R (qs.map _)+1=_);exact D (gy _) H
  refine tj this (D (il (gC _)) (D (iI _) ?_));rfl
 refine cQ (dB (cO (cC (cG H (cC (dh (cH (zh (n:=4) O _ hpe hm (by decide) λd z' s hd O=>?_))))))))
 have O:sX E s (Oo [] a qs):=by
  refine O.sub ?_;have:R (Oo [] a qs)=R qs+1:=by refine(?_:R (qs.map _)+1=_);exact D (gy _) H
  exact D (kj _ _ (by exact tD [1] 0x2501024004a020442 H this)) (ph ..)
 have r_:Le E s:=O.le;have h6:s a=J (f1 (wh qs)):=O.Zu 0 H;have ho:∀q∈qs,s q.1=J (q.2.2.aM q.2.1):=λq hq=>(O.ZT (q.1,q.2.2.aM q.2.1) (gH _ (iD (f:=λq:sE×sE×Cf=>(q.1,q.2.2.aM q.2.1)) hq))).1
 refine rJ (v:=f0 (R qs:M)) (cE (Z H) cF) (tj Ž (sa h6)) _ (Op.n! (by exact tY [0] 0x240888008422 H lq) _ (?_));have hj:d % R qs<R qs:=Nat.mod_lt _ lq;generalize d % R qs=j at hj;have Ps:=gM hj;generalize qs[j]=q0 at Ps;have agn:(wh qs)[j]?=J (Y q0.1):=by unfold wh;refine D (gG) (D Ps ?_);rfl
 have O:=sX.init s;refine cJ (cQ (dB (cC (rE (Z H) (Z H) (r5 h6 agn) _ (cH ⟨gQ H,λc1 M'=>?_⟩)))));have O:=O.new (o:=f1 [Y q0.1]) M';generalize ur s c1 (f1 [Y q0.1])=s1 at O;have hz:R (wh qs)<=th:=D Ž (D sS (tY [200000,16777216] 0x4240900120402 H hlen));refine(?_:qj (U 6) (pG .none) (U 7) _ s1 _);refine dX O (Z H) (O.le _ _ h6) rD (Z H) hz H CZ λc2 s2 O=>?_
 rw[jm,lL,Ž,iO (iG hj)]at O;have Ã:R ((wh qs).take j)<=th:=gA (jW ..) hz;refine dh (dh (fi O (O.Zu 0 H) Ã H (CZ (d:=1)) λc3 s3 O=>?_));rw[jm,lL,PE]at O;refine ei O 2 0 H rfl ?_ λc8 s O=>sP ?_
 .refine D sS (?_:1+_<=_);exact tY [1,16777216] 0x21200200900120402 H (pD .. : R (((wh qs).take j).take 1)<=1)
 have h8:s c8=J (f1 (wh (q0::(qs.take j).take 1))):=by
  exact D (show wh (q0::(qs.take j).take 1)=[Y q0.1]++((wh qs).take j).take 1 by unfold wh;exact D iN (D mW (D mW H))) (O.Zu 0 H)
 have J_:∀q'∈q0::(qs.take j).take 1,q'∈qs:=λq' h=>by
  rcases gX.mp h with rfl | h
  .exact gz Ps
  .exact jC (jC h)
 refine RT hR (ci.Zz (r_.trans O.le)) ?_ h8 (λq' At=>⟨O.le _ _ (ho q' (J_ q' At)),ZQ q' (J_ q' At)⟩) λs' h=>k s' ((r_.trans O.le).trans h)
 exact gA (pD ..) (by decide)
theorem RU(hR:Mn)(ci:IP E G S be j7 x ca)(O:sX E s (Oo [] a iv++[zX j7.br hs m]))(hm:m<=1000)(ZQ:∀q∈iv,zW G S be q.2.2)(hlen:R iv<=200000)(k:∀s',Le E s'->K (ii pH) s'):NN [J (Y j7.sc),J (Y j7.br),J (Y j7.bP),J (Y j7.aD),J (Y j7.v),J (Y j7.cr),J (Y a),sD,sD,sD,sD,sD,sD] s (tB K):=by
 refine dG (L.Γ O 0 H (Z H) λs O=>?_)
 by_cases Z0:iv=[]
 .refine D Z0 ?_;refine D (show decide (wh ([]:CL)=[])=pH from H) (PF (cZ (dB (cO (cC (cG H (cC (cV (cH ⟨gE _,λc hc=>cH ?_⟩)))))))));have hle:=O.le.trans (Le.new (o:=f1 []) hc);have Hs:=ci.Zz hle;refine B5 (qs:=[]) Hs.gx ci.fit ci.χ Hs.bK (te ..) (gE _) (λq hq=>by cases hq) (λF hF q hq=>by cases hq) λc9 F rl s Wp Z7 ø h9 Z2 hE=>?_
  cases rl with
  | cons r rl=>exact(sN ke Z2).elim
  | nil=>
   refine cH ⟨gE _,λc2 wP=>?_⟩;exact sA (neg:=Zt) (l:=[]) (Le.new wP _ _ h9) (te ..) H _ (k _ (hle.trans (Z7.trans (Le.new wP))))
 .exact D (sT (show wh iv≠[] from λe=>Z0 (lj.mp e))) (Cb (Ul hR ci O hm Z0 ZQ hlen k))
theorem XN(hR:Mn)(h:E l=J (SZ od (fp.map f0)))(hz:R fp<=63)(k:∀s',s' l=J (SZ od (fp.map f0))->K (ii pH) s'):NO [Y l] E K:=by
 refine Ve (cQ (cO (cC (cG H (cH (RG h hz λpn z s O=>sP (cJ (cQ (cO (cC (cG H (cH (Nu O (gE _) λcp pl z m s w0 x y more hP hm O=>sP (cQ (cO (cC (Uj (O.Zu 1 H) (λp hp=>(O.ZT (p.1,f1 (sL p.2.2)) (gH _ (gH _ (iD (f:=λp:sE×M×V M=>(p.1,f1 (sL p.2.2))) hp)))).1:∀p∈pl,s p.1=J (f1 (sL p.2.2))) (tY [4,100] 0x4240900120402 H (Wi hP)) (λp hp=>gA (hP.ZT (iD hp)).2.1 (by decide)) O H λc3 GM s e O=>cH ?_)))))))))))))))));refine GW (⟨O.Zu 0 H,λp hp=>(O.ZT (p.1,f1 (sL p.2.2)) (gH _ (gV _ (iD (f:=λp:sE×M×V M=>(p.1,f1 (sL p.2.2))) hp)))).1,e▸hP⟩ : OB s c3 GM w0 x y more) λg gx s1 ts hT hle hG fr=>?_
 rw[e]at hG hT;have O0:=O;have O:=O.Zz hle;have Ċ:=(O.ZT (zX pn z m) (gH _ (gU _ gI))).1;have hpl:=(O.ZT (cp,f1 (Jj pl)) (gH _ (gU _ (gH _ gI)))).1;have SL:∀p∈pl,s1 p.1=J (f1 (sL p.2.2)):=λp hp=>(O.ZT (p.1,f1 (sL p.2.2)) (gH _ (gU _ (gH _ (gH _ (iD (f:=λp:sE×M×V M=>(p.1,f1 (sL p.2.2))) hp)))))).1
 refine cJ (cQ (cC (cG H (cH (L6 hG (Kz hT hP) λv d a da ls cs mk S be s2 Z7 B hM hX frs=>sP ?_)))));have O:=sX.init s2;refine cQ (dB (cV (cC (d6 (cC (dh (cC (cV (cC (dh (cC (dh (cH ⟨gQ H,λa0 v6=>cH ⟨gQ H,cH ⟨gQ H,λc4 Ů=>?_⟩⟩⟩)))))))))))));have O:=(O.new (o:=f1 (sL [6,0])) v6).new (o:=f1 [f2 [g3 "$accept",Y a0]]) Ů;refine cG H (eI O (O.Zu 0 H) (O.le _ _ (Z7 _ _ hpl)) (by refine D As (D sS (?_:1+_<=_));exact tY [4,1,16777216] 0x41204200900120402 H (Wi hP)) λcr s3 O=>?_);refine xE (XF hT hP (O.Zu 0 H) (O.Zu 2 H) λp hp=>O.le _ _ ((λp hp=>Z7 _ _ (SL p hp):∀p∈pl,s2 p.1=J (f1 (sL p.2.2))) p hp)) λca hHX=>?_
 have KM:=O.le;have Ľ:=KM _ _ (Z7 _ _ Ċ);exact cJ (cQ (cC (cG H (cH (Ig ((hG.Zz Z7).Zz KM) (Kz hT hP) B hM (hX.Zz KM) λc cl s4 O4 ZQ hlen=>sP (RU hR (⟨((hG.Zz Z7).Zz KM).del Ľ (hle.trans (Z7.trans KM)) (s:=s3) (st:=s) ((O0.ZT (zX pn z m) (gH _ (gU _ gI))).1) fr,(Kz hT hP),B,hM,(hX.Zz KM).del Ľ (Z7.trans KM) Ċ frs,hHX.del Ľ⟩ : IP (PC s3 pn) (gm (pl.map (·.2)) ts) S be ⟨g,v,d,a,da,ls,cs,mk,cr,l,pn,cp⟩ gx ca) ((Ui Ľ).app O4) (tY [500,1000] 0x4240900120402 H hm) ZQ hlen λs' hf=>k s' (hf _ _ (Ny (KM _ _ (Z7 _ _ (hle _ _ (O0.le _ _ h)))) λe=>by rw[e]at h;exact nomatch h.symm.trans ((O0.ZT (zX pn z m) (gH _ (gU _ gI))).2)))))))))
noncomputable def Vr(G:Gm)(S:V SR)(F:M->M)(t p:M)(i:M×M)(f:M):Prop:=∃σ ρ,Pa G S F t sD (p,i,f) σ ρ
theorem Vr.go(h:Vr G S F t i (r,N) j)(hX:(G.Zv r)[N]?=J X)(hg:vn S i X=J m):Vr G S F t m (r,N+1) j:=
 KC h λσ ρ h=>(KD _ _ (.go h hX hg))
theorem Vr.op(hF:G.ZU){d:M}(h:Vr G S F t i (r,d) X)(hX:(G.Zv r)[d]?=J (G.ZE m))(hr:m<R G.ZF):Vr G S F t i (m,0) (uK G F t (r,d) X):=
 KC h λσ ρ h=>(KD _ _ (.op h hX (hF.ė m hr) hr H))
theorem Mo(hF:G.ZU)(B:x4 G S):∀(q:M) (r:SR),S[q]?=J r->∀p∈r.aJ,∃f,Vr G S F t q p f:=by
 intro q
 induction q using Nat.strongRecOn with
 | _ q ih=>
  intro r hr p hp
  have ww:∀p∈r.aG,∃f,Vr G S F t q p f:=λp hp=>by
   by_cases h0:q=0
   .subst h0;refine s9 B.aT λr0 h1 h2=>?_
    obtain rfl:=gv (hr.symm.trans h1);rw[h2]at hp;exact D (gJ.mp hp) (Dz 0 _ _ .nil)
   .refine t9 (B.rc q (gB.mp hr).1 h0) λp' r' X ZY ZP hX hm=>?_
    have hg:vn S p' X=J q:=Bm.mpr (tC r' ZP hX hm);refine tW (B.from ZP hg hr hp) λd e1 e2 e3=>xE (ih p' ZY r' ZP _ e2) λf hf=>?_
    have:=hf.go e3 hg;rw[<- e1]at this;exact⟨f,this⟩
  rcases ((B.exp hr).1.o0.iff p).mp hp with h | ⟨h1,h2,q0,Ps,X,hX,h3⟩
  .exact ww p h
  .refine xE (ww q0 Ps) λf hf=>D (ji H h1:p=(p.1,0)) ?_
   have H':∀r',r'<R G.ZF->G.ZE r'=X->∃f,Vr G S F t q (r',0) f:=λr' ZP hl=>⟨_,Vr.op hF hf (hl▸hX) ZP⟩
   rcases h3 with h3 | h3
   .exact H' _ h2 h3
   .have key:∀X bv,Ch (Pg G) X bv->(∀r',r'<R G.ZF->G.ZE r'=X->∃f,Vr G S F t q (r',0) f)->∀r',r'<R G.ZF->G.ZE r'=bv->∃f,Vr G S F t q (r',0) f:=by
     intro X bv h
     induction h with
     | single h=>
      refine tW h λr1 KK V' A'=>?_
      intro hw r' ZP hl;exact xE (hw r1 KK V') λf hf=>⟨_,Vr.op hF hf (hl▸A') ZP⟩
     | tail _ h ih=>
      refine tW h λr1 KK V' A'=>?_
      intro hw r' ZP hl;exact xE (ih hw r1 KK V') λf hf=>⟨_,Vr.op hF hf (hl▸A') ZP⟩
    exact key X _ h3 H' _ h2 H
theorem RV{N:M->bn}:∀{row:V M},(∀a∈row,N a=pH)->(fo N F row).2=pH
 | [],_=>rfl
 | s::r,h=>by exact D (M1 (h s gI)) (RV λa ha=>h a (gH _ ha))
noncomputable def Fo(G:Gm)(F:M->M)(t:M)(row:V M):Prop:=(fo (vU G) F row).1.testBit t=pH
theorem Fo.hd(h:(F X).testBit t=pH):Fo G F t (X::w):=Kk (N:=vU G) (α:=[]) (λa ha=>uG ha) h
theorem Fo.bA(hn:Gl G X)(h:Fo G F t w):Fo G F t (X::w):=by
 (refine w5 (J7 h) λα sC β e9 h1 h2=>?_;refine D e9 ?_)
 exact Kk (N:=vU G) (α:=X::α) (λa ha=>(gX.mp ha).elim (λe=>e▸wq.mpr hn) (h1 a)) h2
theorem G3.left(hO:G3 G F)(hr:r<R G.ZF)(h:Fo G F t (G.Zv r)):(F (G.ZE r)).testBit t=pH:=by
 (refine tj (hO.cl r hr) ?_;rewrite[jt];exact D (show(fo (vU G) F (G.Zv r)).1.testBit t=pH from h) (D (nZ _) H))
theorem E8(h:w[i]?=J X):w.drop i=X::w.drop (i+1):=
 D (jk ((gB.mp h).1)) (D ((gB.mp h).2) H)
noncomputable def QQ(G:Gm)(S:V SR)(F:M->M)(t p A:M):Prop:=∃r i,S[p]?=J r/\i∈r.aJ/\(G.Zv i.1)[i.2]?=J A/\Fo G F t ((G.Zv i.1).drop (i.2+1))
theorem OG(hO:G3 G F)(B:x4 G S)(hg:vn S m N=J j)(ZP:S[j]?=J r')(hi:k'∈r'.aJ)(h:Fo G F t ((G.Zv k'.1).drop k'.2)):QQ G S F t m N:=by
 refine s9 (Bm.mp hg) λr hr ø=>?_
 have ww:∀k'∈r'.aG,Fo G F t ((G.Zv k'.1).drop k'.2)->QQ G S F t m N:=λk' hi h=>by
  refine tW (B.from hr hg ZP hi) λd e1 e2 e3=>?_
  rw[e1]at h;exact(uY r (k'.1,d) hr e2 e3 h)
 rcases ((B.exp ZP).1.o0.iff k').mp hi with hI | ⟨h1,h2,q0,Ps,X,hX,h3⟩
 .exact ww k' hI h
 .refine ww q0 Ps (D (E8 hX) (Fo.hd ?_));rw[h1,jm]at h;have hl:=hO.left h2 h
  rcases h3 with h3 | h3
  .exact tj h3 hl
  .have key:∀X bv,Ch (Pg G) X bv->(F bv).testBit t=pH->(F X).testBit t=pH:=by
    intro X bv h
    induction h with
    | single h=>
     refine tW h λr1 KK V' A'=>?_
     intro hz;exact tj V' (hO.left KK (by exact tj (jm (l:=G.Zv r1)) (D (E8 A') (Fo.hd hz))))
    | tail _ h ih=>
     refine tW h λr1 KK V' A'=>?_
     intro hz;exact ih (tj V' (hO.left KK (tj (jm (l:=G.Zv r1)) (D (E8 A') (Fo.hd hz)))))
   exact key X _ h3 hl
noncomputable def PP(G:Gm)(S:V SR)(F:M->M)(t p A:M):Prop:=∀r,r<R G.ZF->G.ZE r=A->Vr G S F t p (r,0) 1
theorem QQ.pp(hF:G.ZU)(B:x4 G S)(h:QQ G S F t X m):PP G S F t X m:=λr' ZP hl=>by
 refine vS h λr i hr hi hA Ā=>xE (Mo (F:=F) (t:=t) hF B X r hr i hi) λf hf=>?_
 have:=Vr.op hF (r:=i.1) (d:=i.2) hf (hl▸hA) ZP;rw[show uK G F t (i.1,i.2) f=1 by unfold uK;exact D (sI (show _=pH from Ā)) H]at this;exact this
theorem KA:∀{α β γ:V M} {r p n f:M},G.Zv r=γ++(α++β)->xo S p α=J n->Vr G S F t p (r,R γ) f->Vr G S F t n (r,R γ+R α) f
 | [],β,γ,r,p,n,f,_,hw,h=>by obtain rfl:=gv hw;exact h
 | X::α,β,γ,r,p,n,f,e,hw,h=>by
  refine s9 (kB.mp (show(vn S p X).bind (λp=>xo S p α)=J n from hw)) λp' hg AC=>?_
  have hX:(G.Zv r)[R γ]?=J X:=by refine D e (D (il (gC _)) (D (iI _) ?_));rfl
  have:=KA (α:=α) (β:=β) (γ:=γ++[X]) (r:=r) (f:=f) (by (refine D e ?_;rewrite[gW]);rfl) AC (D gK (h.go hX hg));rw[gK,jU,ku,lM 1]at this;exact this
theorem IG.pp(hF:G.ZU)(h:IG G S i y)(hx:(vW G.aa 0 S)[i]?=J k')(hy:(vW G.aa 0 S)[y]?=J gi)(hp:PP G S F t gi.1 gi.2):PP G S F t k'.1 k'.2:=λr hr hl=>by
 (refine Nz h λf r0 α X r9=>vS r9 λβ p e1 np e2 r9=>zY r9 λhβ hw e3=>?_)
 obtain rfl:=gv (e1.symm.trans hy);obtain rfl:=gv (e3.symm.trans hx);have h2:=KA (γ:=[]) (α:=α) (β:=X::β) (r:=r0) e2 hw (hp r0 np H);rw[m5,iB]at h2;have hX:(G.Zv r0)[R α]?=J X:=by refine D e2 (D (il (gC _)) (D (iI _) ?_));rfl
 have h3:=Vr.op hF h2 (hl▸hX) hr
 rw[show uK G F t (r0,R α) 1=1 by
  unfold uK;refine D (show((r0,R α):M×M).1=r0 from H) (D (D e2 (tj List.drop_drop (D n6 H)):(G.Zv r0).drop (R α+1)=β) ?_)
  by_cases q:(fo (vU G) F β).1.testBit t=pH
  .exact D (sI q) H
  .exact D (sH q) (D (sI (RV λk' ha=>wq.mpr (hβ k' ha))) H)]at h3
 exact h3
theorem XO(h:St (IG G S) i y):∀(a b:M×M),(vW G.aa 0 S)[i]?=J a->(vW G.aa 0 S)[y]?=J b->G.ZU->PP G S F t b.1 b.2->PP G S F t a.1 a.2:=
 St.ind h (λi a b hx hy ø hp=>D (gv (hx.symm.trans hy)) hp) λh1 ih a b hx hy hF hp=>Nz (id h1) λø ø ø ø r9=>vX r9 λø ø e1 ø=>IG.pp hF h1 hx e1 (ih _ _ e1 hy hF hp)
theorem XP(hO:G3 G F)(B:x4 G S)(h:St (YH G S) y X):∀(a b:M×M),(vW G.aa 0 S)[y]?=J a->(vW G.aa 0 S)[X]?=J b->QQ G S F t b.1 b.2->QQ G S F t a.1 a.2:=
 St.ind h (λx a b hx hy hp=>D (gv (hx.symm.trans hy)) hp) λh1 ih a b hx hy hp=>by
  refine t9 h1 λp q sC e1 hg hn e2=>?_
  refine D (gv (hx.symm.trans e1)) ?_;exact vS (ih _ _ e2 hy hp) λr i hr hi hA Ā=>OG hO B hg hr hi (by exact D (E8 hA) (Fo.bA hn Ā))
theorem X4.qq(hO:G3 G F)(B:x4 G S)(h:X4 G S t X)(hw:(vW G.aa 0 S)[X]?=J k'):QQ G S F t k'.1 k'.2:=by
 refine vz h λp q r e1 hg ht hr hx=>?_
 refine D (gv (hw.symm.trans e1)) ?_;exact s9 (((B.exp hr).2 t).mp hx) λi hi hX=>OG hO B hg hr hi (by exact D (E8 hX) (Fo.hd (by refine D (hO.tm t ht) ?_;exact mY)))
theorem St.aZ{C:M->Prop}(hP:∀i y,P i y->C i/\C y)(h:St P i y)(hx:C i):C y:=
 St.ind (C:=λi y=>C i->C y) h (λø h=>h) (λh ih ø=>ih (hP _ _ h).2) hx
theorem RW(hF:G.ZU)(B:x4 G S)(hO:G3 G F)(h1:Xo G S k' i)(h2:St (IG G S) i y)(h3:St (YH G S) y m)(h4:X4 G S t m):Vr G S F t k'.1 (k'.2,R (G.Zv k'.2)) 1:=by
 refine tW h1 λf e1 hk hw=>xE (St.aZ (C:=λy=>∃b,(vW G.aa 0 S)[y]?=J b) (λu v h=>by
  (refine Nz h λf t α X r9=>vS r9 λβ p e1 ø ø r9=>?_;refine zY r9 λø ø e2=>?_)
  exact⟨⟨_,e2⟩,⟨_,e1⟩⟩) h2 ⟨_,e1⟩ : ∃b,(vW G.aa 0 S)[y]?=J b) λy0 hy=>?_
 refine xE (by
  exact vL h4 λp q r e ø=>⟨_,e⟩ : ∃b,(vW G.aa 0 S)[m]?=J b) λw0 L_=>?_
 have:=KA (γ:=[]) (α:=G.Zv k'.2) (β:=[]) (r:=k'.2) (by rewrite[gY];rfl) hw ((XO (F:=F) (t:=t) h2 _ _ e1 hy hF ((XP hO B h3 _ _ hy L_ (h4.qq hO B L_)).pp hF B)) k'.2 hk H);rw[m5,iB]at this;exact this
theorem XQ:Mn:=λG S be F hF B hM hO q hq=>by
 refine tW hq.ao λr hr pc ø=>⟨λk hk=>?_,λr' p ZP hp=>?_⟩
 .exact zY (pc k hk) λø hm hb=>t9 (hM.ay _ _ hm q.aF hb) λx y w h1 h2 h3 h4=>RW hF B hO h1 h2 h3 h4
 .exact WI (Mo (F:=F) (t:=q.aF) hF B q.st r' ZP p hp) λf σ ρ h=>(Dz f σ ρ h)
theorem Wm(h:s a=J (SZ od (fp.map f0)))(hz:R fp<=63)(k:∀s',s' a=J (SZ od (fp.map f0))->K (ii pH) s'):NO [Y a] s K:=XN XQ h hz k
theorem Mp(x:zc cN fp):sY h (fp.map f0) cN:=by
 induction x with
 | nil=>exact trivial
 | cons n t _ ih=>exact⟨⟨t,H⟩,ih⟩
theorem Um{ì:ExcName->sF sR}{mg mb:ap->sF sR}
  (HK:z6 fw) (KX:fw.In kt.heap) (Pi:JY fw=pH) (T:Top dz ZD ì mg mb kt.heap) (hg:kt.gens = #[]) (hl:kt.heap.get? l=J ⟨.type "list",sD,.seq cN.toArray 0,#[]⟩) (hI:zc cN fp) (hz:R fp<=63) (agu:(l==zj)=Zt) :
  Ek (Ha dw e7) callerA (.call (.ref 829) ⟨[.ref l],[]⟩) (Lu kt) kt:=by
 have other:∀b o,b≠l->kt.heap.get? b=J o->(kt.heap.update l λo=>{o with data:=.freed}).get? b=J o:=λb o hb e=>(pE _ _ (Ne.symm hb)).trans e
 have gone:(kt.heap.update l λo=>{o with data:=.freed}).get? l=sD:=by
  cases dz:(kt.heap.update l λo=>{o with data:=.freed}).get? l with
  | none=>rfl
  | some o=>
   refine xA (pF.mp dz) λe1 e2=>?_
   refine xA (pF.mp hl) λe3 ø=>?_
   simp only[Heap.update,uX.getElem?_modify,Aa]at e1;rw[e3]at e1;obtain rfl:=gv e1;exact tf e2
 have base:∀b o,(kt.heap.update l λo=>{o with data:=.freed}).get? b=J o->kt.heap.get? b=J o:=λb o e=>by
  by_cases dz:b=l
  .rw[dz,gone]at e;exact uH e
  .rw[pE _ _ (Ne.symm dz)]at e;exact e
 have nl:∀b o,kt.heap.get? b=J o->o.cls≠.type "list"->b≠l:=λb o e h dz=>by rw[dz,hl]at e;obtain rfl:=gv e;exact h H
 have nd:∀b o es n,kt.heap.get? b=J o->o.data=.dict es n->b≠l:=λb o es n e h dz=>by rw[dz,hl]at e;obtain rfl:=gv e;exact(sN j0 h).elim
 have Ę:∀b m,kt.heap.Ns b m->(kt.heap.update l λo=>{o with data:=.freed}).Ns b m:=λb m ZN=>w5 ZN λo es ep e d r=>⟨o,es,ep,other b o (nd b o _ _ e d) e,d,r⟩
 let C:Cx:={
  prog:=dw,aH:=e7,at_:=KJ,aI:=fw,h0:=kt.heap.update l λo=>{o with data:=.freed},N_:=kt.os,bY:=mb
  wf:=λa o e=>other a o (nl a o (KX a o e) (OX Pi e)) (KX a o e)
  lim:=s9 T.nolimit λmc h1 h2=>⟨mc,Ę _ _ h1,h2⟩
  x_:=Ę _ _ (PyProof.Rows.Top.b T)
  i_:=T.builtins
  b9:=mg
  z_:=Ę _ _ (PyProof.Rows.Top.g T)}
 have Ty:∀a o,(ur (λø=>sD) l (SZ ⟨.type "list",sD,.seq cN.toArray 0,#[]⟩ (fp.map f0)):LH) a=J o->a=l/\o=SZ ⟨.type "list",sD,.seq cN.toArray 0,#[]⟩ (fp.map f0):=λa o e=>by
  by_cases dz:a=l
  .obtain rfl:=dz.symm;rw[te]at e;obtain rfl:=gv e;exact⟨H,H⟩
  .rw[tR dz]at e;exact uH e
 have hlen:R cN=R fp:=by have:=(Mp (h:=kt.heap) hI).u8;rw[gy]at this;exact this.symm
 have I:tV C (ur (λø=>sD) l (SZ ⟨.type "list",sD,.seq cN.toArray 0,#[]⟩ (fp.map f0))) kt:=by
  refine⟨⟨λa o e=>?_,λa a' c d fs c' Ì e e'=>?_,λa c d fs e=>?_⟩,base,λb ow=>?_,hg,H⟩
  .obtain ⟨rfl,rfl⟩:=Ty a o e;exact(DA hl cN.toArray 0 H (D jM (D hlen (tY [63,33554432] 0x4240900120402 H hz))) (Mp hI))
  .cases (Ty _ _ e).2
  .cases (Ty _ _ e).2
  .rcases ow with ⟨o,e⟩ | ⟨a,c,fs,e⟩
   .exact(Ty _ _ e).1▸⟨gone,agu⟩
   .cases (Ty _ _ e).2
 refine Em (SJ (C:=C) HK H callerA [.ref l] [.ref l] _ kt (λlv s'=>lv=.bool pH/\s' l=J (.fin ⟨.type "list",sD,.seq cN.toArray 0,#[]⟩ (fp.map .int))) (⟨H,by decide,by decide⟩ : Rm callerA 160) I ⟨H,trivial⟩ (Wm (te ..) hz λs' h=>⟨H,h⟩)) ?_
 rintro r s' ⟨v,rfl,lv,E,r,I',x,rfl,hf⟩
 subst (r:_=_);refine(AV H (.of_keep λb o e=>?_) I'.os I'.gens)
 by_cases dz:b=l
 .obtain rfl:=dz.symm;refine tj (gv (hl.symm.trans e)) ?_;exact((I'.rep.obj _ _ hf).1:(s'.heap.get? l=J _))
 .exact I'.base b o (other b o dz e)
theorem Wn:MW:=Um
theorem Y9:MW:=Wn
end Mine
namespace Mine
set_option tactic.hygienic true in
set_option Elab.async true in
set_option maxRecDepth 100000 in
set_option maxHeartbeats 0 in
theorem hd : PySem.Challenge.rw_nn0405_01.Holds := by
  w_on; o_law; k_head; (case hw => w_witness2)
  intro w s₀ s₁ mg mb G Y fa o pm cd doc dV kV ho hd' hcd hD hmg hg args vals as hpre hlay hrd hwl hlo
  have KX := kIn_of Y
  refine Ground.open G ?_
  intro T B D TE TW
  clear hcd hD ho hd'
  have h0 : fa = 829 := Value.ref.inj (Option.some.inj (hmg.symm.trans (mg_of KX T.g (n := "law") (v := .ref 829) (by kernel_rfl))))
  have hlo2 := hlo
  clear hmg
  wrow_args hpre hlay hrd hwl hlo
  all_goals (first | refine callC_kw (enter_call ?_) | refine enter_call ?_ | refine callC_kw (enter_callW ?_) | refine enter_callW ?_)
  subst h0
  rename_i w1 r0 hI _ hc _
  refine codeAny_mono (Y9 (Vp (by kernel_rfl) (by kernel_rfl) (by kernel_rfl) (by kernel_rfl) (by kernel_rfl) (by kernel_rfl) (by kernel_rfl) (by kernel_rfl) (by kernel_rfl)) KX (by kernel_rfl) T hg (Sv w1 (by assumption)) hI (by omega) (hlo2 _ (List.mem_append_left _ (Sw r0)))) (Lu.good ?_ ?_)
  · intro cls
    rfl
  · wrow_post
end Mine
theorem PySem.Challenge.cw_nn0405_01_holds : PySem.Challenge.rw_nn0405_01.Holds :=
 Mine.hd
