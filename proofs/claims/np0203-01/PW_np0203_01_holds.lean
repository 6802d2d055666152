import PyProof.Rows.All
import Wide.All
import OpenK.AllK
import Wide.FinOn
import KE.KBytesCut
import KE.KSliceW
import KE.KBytesWalk
import KE.KTurns
import PyProof.ExcClass3
import KE.KLam
import KE.KSortTup
import KE.KItemsList
import KE.KPar
import PyProof.TableCode
import Lean
import PySem.Challenge.RW_np0203_01
set_option Elab.async false
set_option autoImplicit false
set_option maxRecDepth 100000
set_option linter.all false
set_option genSizeOf false
set_option genInjectivity false
set_option genCtorIdx false
set_option bootstrap.genMatcherCode false
local macro_rules | `(tactic| rfl') => `(tactic| kernel_rfl)
section
open PySem PySem.W PyProof.Rows PySem.Calls
namespace Mine
abbrev OL:=@wpAny_bind
abbrev OM:=@wpAny_pure
abbrev ON:=@Option.some.inj
abbrev OO:=@Nat.le_of_ble_eq_true
abbrev OP:=@of_decide_eq_true
abbrev OQ:=@List.mem_append_left
abbrev OS:=@List.mem_append_right
abbrev OT:=@Heap.get?_push_of_some
abbrev OU:=@Heap.get?_push_size
abbrev OV:=@Nat.le_trans
abbrev OW {α : Type _} {a b : α} {l : List α} : a ∈ b :: l → a = b ∨ a ∈ l := List.mem_cons.mp
abbrev OX {α : Type _} {a b : α} : a ∈ [b] → a = b := List.mem_singleton.mp
abbrev OY:=@congrArg
abbrev OZ:=@List.length_map
abbrev Pa:=@Nat.add_le_add_left
abbrev Pb:=@List.getElem?_eq_getElem
abbrev Pc:=@Nat.eq_of_beq_eq_true
abbrev Pd:=@wpAny_holding
abbrev Pe:=@Nat.ble_eq_true_of_le
abbrev Pf:=@Nat.lt_of_le_of_lt
abbrev Ph:=@List.size_toArray
abbrev Pj:=@Int.natCast_nonneg
abbrev Pk:=@wpAny_standAt
abbrev Pl:=@List.append_nil
abbrev Pm:=@List.mem_of_getElem?
abbrev Pn:=@List.getElem?_append_left
abbrev Po:=@List.getElem?_map
abbrev Pp:=@if_pos
abbrev Pq:=@if_neg
abbrev Pr:=@Nat.le_of_not_lt
abbrev Pu:=@Heap.lt_size
abbrev Pw:=@Nat.le_refl
abbrev Px {α : Type _} {a : α} {s t : List α} : a ∈ s ++ t → a ∈ s ∨ a ∈ t := List.mem_append.mp
abbrev Py {m n : Nat} : m < n → m ∈ List.range n := List.mem_range.mpr
end Mine
end
namespace Mine.joined
def tw17888585710585224838:=Nat
def tw13283044549052945301:=Nat
def tw4867809421075745472:=Nat
def tw3481307261989086896:=Nat
def tw14528545626678181820:=Nat
def tw12704206536657080654:=Nat
def tw6950984113090810197:=Nat
def tw2564387761458644965:=Nat
def tw14961681476069776921:=Nat
def tw15112584943659332722:=Nat
def tw9791849534426083911:=Nat
def tw14778848694990792706:=Nat
def tw14617233217761850614:=Nat
def tw6710031294030892662:=Nat
def tw15613585832246065563:=Nat
def tw11970225023544681590:=Nat
def tw11128129034674740981:=Nat
def tw2497402195988362284:=Nat
def tw14454099812786009461:=Nat
def tw4551292471165653624:=Nat
def tw6286687936375852794:=Nat
def tw17888968454332057197:=Nat
def tw2679192727715222525:=Nat
def tw1996535507060057891:=Nat
def tw8426781658677667043:=Nat
def tw15923319713793238076:=Nat
def tw13285523337496608297:=Nat
def tw5189370864665632131:=Nat
def tw6335107738273780477:=Nat
def tw11421613375669989904:=Nat
def tw9609751458467649087:=Nat
def tw4174137184562547226:=Nat
def tw6938567014899700505:=Nat
def tw18204641548583106809:=Nat
def tw11243246605663307545:=Nat
def tw8770013327099595116:=Nat
def tw2970512288193091884:=Nat
def tw15903888842496024497:=Nat
def tw5663810429357968387:=Nat
def tw3233648098770525570:=Nat
def tw9173169302022139451:=Nat
def tw12870520257254962980:=Nat
def tw7696114513982583326:=Nat
def tw5314279950874285637:=Nat
def tw11839054532545846439:=Nat
def tw16485566728759249922:=Nat
def tw16261231784805191920:=Nat
def tw7250677759686996298:=Nat
def tw5778669617643854188:=Nat
def tw867673367905134308:=Nat
def tw6548782596753904508:=Nat
def tw9992769695651470906:=Nat
def tw1514223933013583144:=Nat
def tw17758460738420188823:=Nat
def tw14703629193810653219:=Nat
def tw1115802768397368120:=Nat
def tw6660585410900781158:=Nat
def tw5289178461673833280:=Nat
def tw7307041767694285627:=Nat
def tw11059096323027773216:=Nat
def tw2983302505445936011:=Nat
def tw6673139995557400273:=Nat
def tw15336329430699769934:=Nat
def tw14580722781044315962:=Nat
def tw14530442589256621152:=Nat
def tw15659285519611499591:=Nat
def tw4027784698583265890:=Nat
def tw9349239116704703383:=Nat
def tw11603759540401589259:=Nat
def tw340950619205272454:=Nat
def tw8086153641537136857:=Nat
def tw5190687368830680973:=Nat
def tw3346923407652593782:=Nat
def tw5753564542348303140:=Nat
def tw10609230238181370458:=Nat
def tw1798705781526824666:=Nat
def tw4481877371251650782:=Nat
def tw13024299467639704695:=Nat
def tw12730010551415567971:=Nat
def tw4218127863400304040:=Nat
def tw13769043119676962778:=Nat
def tw1652825429631583628:=Nat
def tw7193377846799356611:=Nat
def tw4140524117491737647:=Nat
def tw8808236482860676978:=Nat
def tw17532912108963075000:=Nat
def tw9208729113307467758:=Nat
def tw1671189119395786579:=Nat
def tw8691446290586122678:=Nat
def tw15956394820722649806:=Nat
def tw1423844593754189579:=Nat
def tw6740593750985759556:=Nat
def tw14031295095113832593:=Nat
def tw15468174949624382930:=Nat
def tw13576946419387440194:=Nat
def tw14337520525746954113:=Nat
def tw11956584335591001760:=Nat
def tw14715493235164814907:=Nat
def tw11631650267907413870:=Nat
def tw5471916891196267162:=Nat
def tw20323368330508326:=Nat
def tw12822060873304067373:=Nat
def tw1907675731559990814:=Nat
def tw17149885236099821607:=Nat
def tw12688996676015680117:=Nat
def tw13742793217553821419:=Nat
def tw1839023692322007700:=Nat
def tw6372584442211725069:=Nat
def tw8740092050100313922:=Nat
def tw14231800460104718424:=Nat
def tw6030574262309857619:=Nat
def tw12245324597558655149:=Nat
def tw10766008756960666907:=Nat
def tw2158020974795696408:=Nat
def tw6990575811273812209:=Nat
def tw12977101826324027025:=Nat
def tw10758430014739480931:=Nat
def tw5042494123705775302:=Nat
def tw2017685740956429606:=Nat
def tw4089293968724162514:=Nat
def tw11960269536643645858:=Nat
def tw18230528989732561281:=Nat
def tw4797844729617909256:=Nat
def tw15114411007651695138:=Nat
def tw6158118317179492165:=Nat
def tw14684560226150848902:=Nat
def tw10138030884195887095:=Nat
def tw3544590782296325340:=Nat
def tw7616145789135678495:=Nat
def tw3844193690266985949:=Nat
def tw18166183397334346089:=Nat
def tw12935316574246691570:=Nat
def tw2411650052134736930:=Nat
def tw16273289483504163117:=Nat
def tw4004592628988791186:=Nat
def tw1094444791511364183:=Nat
def tw6595198642837920275:=Nat
def tw4483015308503028672:=Nat
def tw7138953914073240751:=Nat
def tw4428365302791956943:=Nat
def tw14713736250677219245:=Nat
def tw1815830949600081067:=Nat
def tw13648465573092469800:=Nat
def tw618092884007527642:=Nat
def tw10347221406564756343:=Nat
def tw1163659114103003515:=Nat
def tw9099067272640071924:=Nat
def tw18001825594168006124:=Nat
def tw3602669931363719478:=Nat
def tw1392342342523155264:=Nat
def tw14792969236133780645:=Nat
def tw10027794470092845962:=Nat
def tw6591701492826863241:=Nat
def tw7526312467794094199:=Nat
def tw6497057828953842894:=Nat
def tw12619050085948657212:=Nat
def tw14519532512230897668:=Nat
def tw8879296853574622908:=Nat
def tw12851258536491721756:=Nat
def tw10787060299181407602:=Nat
def tw15239909403622730504:=Nat
def tw900516813502517799:=Nat
def tw17670864313496248493:=Nat
def tw17893950960644248766:=Nat
def tw433856122321234214:=Nat
def tw5814720046119203905:=Nat
def tw13876830911239791029:=Nat
def tw3686542836851991395:=Nat
def tw4812552560597901628:=Nat
def tw6701581885665587972:=Nat
def tw17060932044675388686:=Nat
def tw1617410390953448707:=Nat
def tw6813801989917657285:=Nat
def tw2114177011325882295:=Nat
def tw352588641260010399:=Nat
def tw9142989863805927427:=Nat
def tw15433800927828613050:=Nat
def tw15146853470125386913:=Nat
def tw17877342664156804334:=Nat
def tw13937332576677664196:=Nat
def tw15669734846985968899:=Nat
def tw12203803775953965700:=Nat
def tw6043949546502296984:=Nat
def tw8239022586110839985:=Nat
def tw17640097302616934070:=Nat
def tw2090019564919606927:=Nat
def tw4081167350768344080:=Nat
def tw1331748133232024959:=Nat
def tw1709066945609698558:=Nat
def tw4023086643844819663:=Nat
def tw3517114705414072183:=Nat
def tw15937734751865107153:=Nat
def tw15958632083591183138:=Nat
def tw7600036822165926523:=Nat
def tw11614832086255653318:=Nat
def tw14808135488732212432:=Nat
def tw6851400109904463414:=Nat
def tw14295126339887948828:=Nat
def tw12924740449605173631:=Nat
def tw10452763101987186345:=Nat
def tw7202382722322411881:=Nat
def tw8160888894232303802:=Nat
def tw5374014946334845779:=Nat
def tw13380925995320132239:=Nat
def tw2780462673051835710:=Nat
def tw16164244290553661633:=Nat
def tw16801590394301388392:=Nat
def tw2502018317805250501:=Nat
def tw14326764572723267326:=Nat
def tw17084330165039383440:=Nat
def tw9199968646932539294:=Nat
def tw10953261282597234525:=Nat
def tw16895920979631868647:=Nat
def tw4565901059516194835:=Nat
def tw7825462465049666276:=Nat
def tw9631569120137429881:=Nat
def tw14353285027930708982:=Nat
def tw11575999429368719281:=Nat
def tw689746494016383729:=Nat
def tw2108538598182203602:=Nat
def tw10945569150627998511:=Nat
def tw11275528950826531980:=Nat
def tw11643005839818190551:=Nat
def tw7490343410714882329:=Nat
def tw7657181668488618272:=Nat
def tw6954738875774135688:=Nat
def tw15270529102946293798:=Nat
def tw5185981675955114155:=Nat
def tw4184305123840918967:=Nat
def tw16328696636219402476:=Nat
def tw15940238307627816558:=Nat
def tw17710452633426353712:=Nat
def tw6885607212837177478:=Nat
def tw13276936418821766155:=Nat
def tw12445727051573689628:=Nat
def tw710359117151955353:=Nat
def tw16033756025491496821:=Nat
def tw15303051068107833283:=Nat
def tw8932171510552795524:=Nat
def tw16298419094358496465:=Nat
def tw18024750971303507005:=Nat
def tw10471073327044583175:=Nat
def tw12933898343944204498:=Nat
def tw12715753457471352607:=Nat
def tw13287154390593592114:=Nat
def tw7630611541834391033:=Nat
def tw11620889845469277017:=Nat
def tw1687972356952143254:=Nat
def tw9134446068944456515:=Nat
def tw10043780633087404568:=Nat
def tw13792200264802072302:=Nat
def tw10285783229602491089:=Nat
def tw15690039062468177693:=Nat
def tw158506580546336343:=Nat
def tw17219311126408656947:=Nat
def tw6243907186569951216:=Nat
def tw4554379266847124498:=Nat
def tw4622957960692925995:=Nat
def tw16276573893895910959:=Nat
def tw16826927756990863607:=Nat
def tw15632969931342143734:=Nat
def tw17779272493919850062:=Nat
def tw5671898875089045584:=Nat
def tw890200830820759619:=Nat
def tw1668453939461434196:=Nat
def tw5316640747354644597:=Nat
def tw6654576711655533257:=Nat
def tw15787432104482085410:=Nat
def tw14240127461196482955:=Nat
def tw111974796399722432:=Nat
def tw17317330702079542238:=Nat
def tw5724587671023358661:=Nat
def tw15962715962563352973:=Nat
def tw7210363422772695193:=Nat
def tw17581213090353212425:=Nat
def tw9666484516180707263:=Nat
def tw9260299135454317180:=Nat
def tw2144793239308718167:=Nat
def tw1373007556353070522:=Nat
def tw10379583804533317680:=Nat
def tw2751316888645702312:=Nat
def tw8655928049174703924:=Nat
def tw1039270786920065136:=Nat
def tw4270019880831204414:=Nat
def tw9833176073938090876:=Nat
def tw9815319924283290635:=Nat
def tw9571094410748800265:=Nat
def tw1479946527748924440:=Nat
def tw16690610002466576062:=Nat
def tw8122766967260607416:=Nat
def tw16216000159505118076:=Nat
def tw2743579411119997329:=Nat
def tw1072120426460951307:=Nat
def tw7518761083921567604:=Nat
def tw8086261850621634794:=Nat
def tw16850972947788270639:=Nat
def tw7695242533436624187:=Nat
def tw8088105184325955375:=Nat
def tw7709912315149591512:=Nat
def tw4210893056703228144:=Nat
def tw15695975740179977635:=Nat
def tw16292622055295949322:=Nat
def tw1512254853051110231:=Nat
def tw1432120138829775037:=Nat
def tw18059063039120509979:=Nat
def tw12985861415366581583:=Nat
def tw15788006984615825013:=Nat
def tw11124573095698391855:=Nat
def tw11343068035858373527:=Nat
def tw14085002994172272155:=Nat
def tw4643573623161296698:=Nat
def tw9070446793620409361:=Nat
def tw1654528905826664966:=Nat
def tw9882928893169816324:=Nat
def tw6862686176828954152:=Nat
def tw1840786086739801038:=Nat
def tw11115680792016288644:=Nat
def tw5384113530097030075:=Nat
def tw6444604846956090376:=Nat
def tw4771584328235484591:=Nat
def tw9273381627207791347:=Nat
def tw14402831029255140106:=Nat
def tw7047166328252539228:=Nat
def tw10597082943531382793:=Nat
def tw14341828971820723477:=Nat
def tw168651603973544931:=Nat
def tw13800845187903892289:=Nat
def tw7100521450666677377:=Nat
def tw10153361378485386366:=Nat
def tw8114994674982737558:=Nat
def tw12385784493381813556:=Nat
def tw4256345428217367818:=Nat
def tw15392277163550815459:=Nat
def tw10442094470229254151:=Nat
def tw1886671632533377639:=Nat
def tw7977041375747040339:=Nat
def tw6221210460407477601:=Nat
def tw6675286112704590240:=Nat
def tw2253163231936739053:=Nat
def tw16821017878029228456:=Nat
def tw15118253157379383873:=Nat
def tw10675090398975467965:=Nat
def tw4272830096711481041:=Nat
def tw10947918980473559059:=Nat
def tw1868779541259626320:=Nat
def tw3991555000232219151:=Nat
def tw10083057399521828773:=Nat
def tw6270814659203235082:=Nat
def tw8231841351284497096:=Nat
def tw8478316199244965997:=Nat
def tw14268928449978483302:=Nat
def tw4374295744847189607:=Nat
def tw851362639569405504:=Nat
def tw9373018862967921435:=Nat
def tw1746748386789266123:=Nat
def tw8760308097243906762:=Nat
def tw751438437898936053:=Nat
def tw17302469283819097501:=Nat
def tw9036089530938874974:=Nat
def tw3156509118324913927:=Nat
def tw4547569224705138977:=Nat
def tw1027942130893854691:=Nat
def tw7587333845339716718:=Nat
def tw6730537670034618453:=Nat
def tw9435528666004889120:=Nat
def tw4779350796276676384:=Nat
def tw1744670950240856715:=Nat
def tw7289989994908920146:=Nat
def tw3236761906080466394:=Nat
def tw3944401725586385466:=Nat
def tw2479905804122917012:=Nat
def tw1122322509465194181:=Nat
def tw1445205654946360439:=Nat
def tw5328313232275962622:=Nat
def tw8312431965694662742:=Nat
def tw17155335430730779482:=Nat
def tw4629509380502741176:=Nat
def tw8887806392580539912:=Nat
def tw2661789196457824703:=Nat
def tw4105994598657355658:=Nat
def tw13696127280957440197:=Nat
def tw7206964369590423574:=Nat
def tw654713601734331886:=Nat
def tw3290803848320030093:=Nat
def tw6490533585117335859:=Nat
def tw14503487535435279655:=Nat
def tw17743896444261515447:=Nat
def tw13800626967037318241:=Nat
def tw906024395274585278:=Nat
def tw437105557778151852:=Nat
def tw15760344974446126212:=Nat
def tw12240710815909189973:=Nat
def tw13303873326811934841:=Nat
def tw17255363389683276993:=Nat
def tw16295340587488028283:=Nat
def tw6393877673199089841:=Nat
def tw11585944667476867275:=Nat
def tw11723151151384497609:=Nat
def tw17165257631095743358:=Nat
def tw13218874710986472609:=Nat
def tw2213364716433512672:=Nat
def tw17697649985433978820:=Nat
def tw825472786010668174:=Nat
def tw15380553609194300408:=Nat
def tw12415063787053806138:=Nat
def tw9621816398741126464:=Nat
def tw5933116591080273626:=Nat
def tw6913776176988338094:=Nat
def tw9074753307322130271:=Nat
def tw17142454556407235265:=Nat
def tw16237066859623733021:=Nat
def tw9334581331135254264:=Nat
def tw7100640888837620389:=Nat
def tw12830383582667482676:=Nat
def tw9915437245143846420:=Nat
def tw17357089961931387220:=Nat
def tw3742600544284344810:=Nat
def tw9153007501047805650:=Nat
def tw9974941247824670803:=Nat
def tw14245053231124882230:=Nat
def tw3857584865778263019:=Nat
def tw1119578126498703889:=Nat
def tw5647487063889257127:=Nat
def tw6764314816658360613:=Nat
def tw9787476174000342950:=Nat
def tw14687959968615189323:=Nat
def tw4402761416555159719:=Nat
def tw162232346707859638:=Nat
def tw5156530466238557513:=Nat
def tw16174037856172910435:=Nat
def tw18005711976960834531:=Nat
def tw1482434017810264714:=Nat
def tw1646768812407117981:=Nat
def tw13467597903635157657:=Nat
def tw7527527833876995007:=Nat
def tw2336401995730633647:=Nat
def tw16936705119723668205:=Nat
def tw1274967394984148028:=Nat
def tw17182070805859786185:=Nat
def tw6197229665259672227:=Nat
def tw5045034467032488100:=Nat
def tw7127858643285370096:=Nat
def tw13989489628850159846:=Nat
def tw18255373868976488042:=Nat
def tw13865232951877102196:=Nat
def tw14231657303244132909:=Nat
def tw6644606788864357622:=Nat
def tw16704345239658076125:=Nat
def tw12026885297294267670:=Nat
def tw2784050069302060264:=Nat
def tw15056841645599980175:=Nat
def tw15701807646722796950:=Nat
def tw887149136845917924:=Nat
def tw2318198991891879410:=Nat
def tw2594056996518637476:=Nat
def tw16476162458633157031:=Nat
def tw1919398298840785490:=Nat
def tw5646837175724408884:=Nat
def tw8613441269544181578:=Nat
def tw2870893818462738019:=Nat
def tw7609582054869971400:=Nat
def tw12910484780263986383:=Nat
def tw6916910268950492485:=Nat
def tw13858363419877018049:=Nat
def tw2950270719379943473:=Nat
def tw16164350171221891553:=Nat
def tw6654244315375624037:=Nat
def tw2224887864867524385:=Nat
def tw5332516678748288206:=Nat
def tw7255269526312786388:=Nat
def tw6794984851780174019:=Nat
def tw486874932563379821:=Nat
def tw16925183325409403569:=Nat
def tw14659174919405660586:=Nat
def tw5279545341077042511:=Nat
def tw17359013648044423437:=Nat
def tw17668187780202778113:=Nat
def tw15911654918141069280:=Nat
def tw1994942868616304148:=Nat
def tw17869428700794652671:=Nat
def tw5907854258803634207:=Nat
def tw1796702826413384145:=Nat
def tw15187654455994878695:=Nat
def tw15046060493454164762:=Nat
def tw18122091210293443388:=Nat
def tw1042881287554004006:=Nat
def tw16789942441312232364:=Nat
def tw2123749719082691683:=Nat
def tw794023193246356102:=Nat
def tw2301762262079025426:=Nat
def tw16452509471352819635:=Nat
def tw9766674407850521289:=Nat
def tw10163573602370355177:=Nat
def tw4517696493387314445:=Nat
def tw2393509565878391855:=Nat
def tw17944292609595636865:=Nat
def tw11906509728414466109:=Nat
def tw6082760489841785099:=Nat
def tw8860800598527484684:=Nat
def tw16269499334490035128:=Nat
def tw12157901717163075492:=Nat
def tw6494640475596559928:=Nat
def tw6660922392875659241:=Nat
def tw11850743177819825581:=Nat
def tw4631136226183600475:=Nat
def tw6369136017094465714:=Nat
def tw15092313887934209235:=Nat
def tw10593262870856555462:=Nat
def tw16376833448191294258:=Nat
def tw529907386624330132:=Nat
def tw6476328747867646564:=Nat
def tw11744578855311428676:=Nat
def tw5765763623331348299:=Nat
def tw12896653702089186747:=Nat
def tw12051235032723641534:=Nat
def tw566970522800088022:=Nat
def tw10527567628418801313:=Nat
def tw7011827318173261251:=Nat
def tw13842225869363577564:=Nat
def tw13840843637300672381:=Nat
def tw8695084478803602257:=Nat
def tw18316739270798647943:=Nat
def tw11922101594939067438:=Nat
def tw12234736699906878678:=Nat
def tw9771348635727910263:=Nat
def tw10223578032687078873:=Nat
def tw10445106413992071836:=Nat
def tw6537859110147516028:=Nat
def tw17774087915635035427:=Nat
def tw8894219846614569511:=Nat
def tw10787412985510190495:=Nat
def tw15733720712269309988:=Nat
def tw13499040387660896877:=Nat
def tw1145686360990217242:=Nat
def tw5099596419033749477:=Nat
def tw506711193579104584:=Nat
def tw18282322060965704040:=Nat
def tw4363917201394640445:=Nat
def tw7091328049496908255:=Nat
def tw6757929761538837441:=Nat
def tw7332333589447085317:=Nat
def tw6843302663004683318:=Nat
def tw11646330412999376702:=Nat
def tw14963752633013545015:=Nat
def tw17754760081473603622:=Nat
def tw15866478613964658935:=Nat
def tw14682016365223015480:=Nat
def tw9782362564724005040:=Nat
def tw14671035740828633695:=Nat
def tw4032108657227054265:=Nat
def tw10792759616203977078:=Nat
def tw15960261394974553590:=Nat
def tw18208177957754314944:=Nat
def tw16650272516087058680:=Nat
def tw8661423032760066520:=Nat
def tw15434376291200257802:=Nat
def tw7237075359318166527:=Nat
def tw14972526954723053734:=Nat
def tw2207998361706190389:=Nat
def tw14563676618230480989:=Nat
def tw5407210885971203859:=Nat
def tw8888017668673433972:=Nat
def tw7063347064871852235:=Nat
def tw10315040043001448315:=Nat
def tw16542858613323802197:=Nat
def tw279706565665086756:=Nat
def tw8144974319684180133:=Nat
def tw16120244050964232798:=Nat
def tw3015503264293040779:=Nat
def tw5750774366207818322:=Nat
def tw16871578799643788401:=Nat
def tw342688943006275957:=Nat
def tw17851329936664076671:=Nat
def tw2240859517775021561:=Nat
def tw17225752508703233949:=Nat
def tw6576031748576072640:=Nat
def tw2548960520722086953:=Nat
def tw1193414052064227172:=Nat
def tw10506170979312778622:=Nat
def tw3659880185020728757:=Nat
def tw14683661519882363214:=Nat
def tw3587714806818042378:=Nat
def tw12707569440441260981:=Nat
def tw9556488305779069459:=Nat
def tw8067661763040832447:=Nat
def tw6059636576279161482:=Nat
def tw7647873693942661852:=Nat
def tw7476567170518331199:=Nat
def tw13162160420469190599:=Nat
def tw16469770506033899051:=Nat
def tw14734233723079164072:=Nat
def tw11519736734938671206:=Nat
def tw5997478012747770125:=Nat
def tw5234049220197487120:=Nat
def tw17202463137928829348:=Nat
def tw715543148563063972:=Nat
def tw334156776421221415:=Nat
def tw4455970809097591651:=Nat
def tw371220522277232460:=Nat
def tw4002973886536774509:=Nat
def tw4199979146332630123:=Nat
def tw12081300585149799885:=Nat
def tw11779478096089797304:=Nat
def tw9130450666850179351:=Nat
def tw13800109124582016243:=Nat
def tw9997942718505495792:=Nat
def tw10899676582699070223:=Nat
def tw11099765427900614764:=Nat
def tw97548798848973305:=Nat
def tw15138143466279863545:=Nat
def tw7441039163481467519:=Nat
def tw7114556208852127538:=Nat
def tw13826259768378714268:=Nat
def tw2397427143483384004:=Nat
def tw17820607687050543264:=Nat
def tw8926274800956929349:=Nat
def tw1942208891740669999:=Nat
def tw6307608276488673349:=Nat
def tw8896078001926120273:=Nat
def tw5567651106261499119:=Nat
def tw8569886948928438528:=Nat
def tw6852093985325937351:=Nat
def tw3939816038804377030:=Nat
def tw11397655847077873374:=Nat
def tw7337113631957099611:=Nat
def tw14658605033319343179:=Nat
def tw2704575996190417225:=Nat
def tw14477716655656459492:=Nat
def tw5901664833421785399:=Nat
def tw8539873407341696925:=Nat
def tw6958691851194625566:=Nat
def tw5980065278520572915:=Nat
def tw14832927225866372928:=Nat
def tw18312038950936882759:=Nat
def tw9461716085335952369:=Nat
def tw9473998023314498359:=Nat
def tw12884206743703191494:=Nat
def tw10867270780762409281:=Nat
def tw422898057235072749:=Nat
def tw16877726741295617879:=Nat
def tw359276739182327564:=Nat
def tw3200192291121494936:=Nat
def tw17792904458676106705:=Nat
def tw5793371358498240789:=Nat
def tw4958014211881666609:=Nat
def tw12849580123667002489:=Nat
end Mine.joined
section
set_option backward.match.sparseCases false
namespace Mine
noncomputable abbrev Txt:=List Nat
set_option genCtorIdx true in
inductive Bi|len|isinstance|sorted|all|sum|bytes|dict|int|bool
set_option genCtorIdx true in
inductive V
 |none|bool (b:Bool)|int (i:Int)|str (s:Txt)|bytes (b:List Nat)
 |tup (xs:List V)|lst (xs:List V)|g6 (xs:List V)|snap (xs:List V)
 |obj (c:Nat) (at_:List (Nat×V))|cu (c:Nat) (at_:List (Nat×V))
 |uq (kvs:List (Txt×V))|E2 (kvs:List (Txt×V))|Z9 (kvs:List (Txt×V))
 |loc (i:Nat)|fn (k:Nat)|cls (k:Nat)|bi (b:Bi)
set_option genCtorIdx true in
inductive O
 |list (xs:List V)|map (f:Txt->Option V)|dB (kvs:List (Int×V))|inst (c:Nat) (d:Nat)|emp
set_option genCtorIdx true in
inductive IS|add|sub|mul|mod|pow|shl|shr|band|fdiv
set_option genCtorIdx true in
inductive ij|eq|ne|lt|le|gt|ge|is|M6|iz|R8
set_option genCtorIdx true in
inductive mK|val|enum|range
inductive X
 |lit (v:V)|OK (x:Nat)|bin (op:IS) (l r:X)|not (e:X)|neg (e:X)
 |R5 (es:List X)|mN (es:List X)|cmp (l:X) (rs:List (ij×X))|ite (t b e:X)
 |call (f:X) (args:List X)|l5 (o:X) (m:Nat) (args:List X)|attr (o:X) (a:Nat)
 |sub (o i:X)|slice (o:X) (lo hi:Option X)
 |list (es:List X)|tuple (es:List X)|dict (kvs:List (X×X))
 |Y5 (es:List X)|K3 (kvs:List (X×X))
 |comp (p:Bool) (elt:X) (xs:List Nat) (src:mK) (it:List X) (cond:Option X)
 |A3 (body:X)|l4 (o:X)
set_option genCtorIdx true in
inductive T|OK (x:Nat)|B4 (x:Nat)|attr (o:X) (a:Nat)|item (o i:X)|Y6 (x:Nat) (i:X)
inductive S
 |assign (t:T) (e:X)|N0 (ts:List T) (es:List X)|F7 (ts:List T) (es:List X)|H4 (ts:List T) (e:X)
 |expr (e:X)|ite (t:X) (b e:List S)|y6 (t:X) (b:List S)
 |F2 (xs:List Nat) (src:mK) (it:List X) (b:List S)|ret (e:X)|raise (il:X)|o8
 |F1 (x:Nat) (e:X)|K4 (x:Nat) (e:X)|fT (y x:Nat)|J0 (x:Nat) (e:X)|pass
noncomputable abbrev Hp:=List O
noncomputable abbrev Fr:=List (Nat×V)
set_option genCtorIdx true in
inductive R (α:Type)
 |ok (a:α) (Y:Hp)|exc (t:Txt) (Y:Hp)|no (why:Nat)
namespace R
noncomputable def bind {α β:Type}:R α->(α->Hp->R β)->R β
 |ok a Y,f=>f a Y
 |exc t Y,_=>exc t Y
 |no w,_=>no w
noncomputable def z6 {α:Type}:R α->R α
 |exc _ _=>no 1
 |r=>r
def c4 {α:Type} (r:R α) (K:α->Hp->Prop) (X:Txt->Hp->Prop):Prop:=match r with
 |ok a Y=>K a Y
 |exc t Y=>X t Y
 |no _=>False
theorem d5 {α β:Type} {r:R α} {f:α->Hp->R β} {K:β->Hp->Prop} {X:Txt->Hp->Prop}:(r.bind f).c4 K X↔r.c4 (λa Y=>(f a Y).c4 K X) X:=by
 cases r<;>exact Iff.rfl
theorem c4.mono {α:Type} {r:R α} {K K':α->Hp->Prop} {X X':Txt->Hp->Prop} (h:r.c4 K X) (k:∀a Y,K a Y->K' a Y) (x:∀t Y,X t Y->X' t Y):r.c4 K' X':=by
 cases r with
 |ok a Y=>exact k a Y h
 |exc t Y=>exact x t Y h
 |no w=>exact h
theorem c4.and {α:Type} {r:R α} {K:α->Hp->Prop} {X:Txt->Hp->Prop} (h:r.c4 K X):r.c4 (λa Y=>r=.ok a Y∧K a Y) (λt Y=>r=.exc t Y∧X t Y):=by
 cases r with
 |ok a Y=>exact⟨rfl,h⟩
 |exc t Y=>exact⟨rfl,h⟩
 |no w=>exact h
theorem J5 {α:Type} {r:R α} {K:α->Hp->Prop} {X:Txt->Hp->Prop} (h:r.z6.c4 K X):r.c4 K (λJ J=>False):=by
 cases r with
 |ok a Y=>exact h
 |exc t Y=>exact h.elim
 |no w=>exact h
end R
noncomputable def b8 {α:Type} (w:Nat) (o:Option α) (Y:Hp):R α:=match o with
 |some a=>.ok a Y
 |none=>.no w
noncomputable def og {α β:Type} (o:Option α) (f:α->β) (g:β):β:=match o with
 |some a=>f a
 |none=>g
noncomputable def R9 {κ:Type} (eq:κ->κ->Bool):List (κ×V)->κ->Option V
 | [],_=>none
 |p::r,k=>bif eq p.1 k then some p.2 else R9 eq r k
noncomputable def qK {κ:Type} (eq:κ->κ->Bool) (kvs:List (κ×V)) (k:κ) (v:V):List (κ×V):=bif kvs.any (λp=>eq p.1 k)then kvs.map (λp=>bif eq p.1 k then(p.1,v)else p)else kvs++[(k,v)]
noncomputable def d6:Fr->Nat->Option V:=R9 Nat.beq
noncomputable def putN:Fr->Nat->V->Fr:=qK Nat.beq
noncomputable def r5:Txt->Txt->Bool
 | [],[]=>true
 |a::r,b::q=>Nat.beq a b&&r5 r q
 |_,_=>false
noncomputable def zq:Txt->Txt->Bool
 | [],[]=>false
 | [],_::_=>true
 |_::_,[]=>false
 |a::r,b::q=>Nat.blt a b ||(Nat.beq a b&&zq r q)
noncomputable def Gw:Txt->Txt->Bool
 | [],_=>true
 |_::_,[]=>false
 |a::r,b::q=>Nat.beq a b&&Gw r q
noncomputable def Mh (p:Txt):Txt->Bool
 | []=>Gw p []
 |a::r=>Gw p (a::r)|| Mh p r
noncomputable def bc:List (Txt×V)->Txt->Option V:=R9 r5
noncomputable def Cj:List (Txt×V)->Txt->V->List (Txt×V):=qK r5
noncomputable def IY (a b:Int):Bool:=decide (a=b)
noncomputable def EM:List (Int×V)->Int->Option V:=R9 IY
noncomputable def Gi:List (Int×V)->Int->V->List (Int×V):=qK IY
noncomputable def t9 (f:Txt->Option V) (k:Txt) (v:Option V):Txt->Option V:=λq=>bif r5 k q then v else f q
noncomputable def oH (k:Txt):List Txt->List Txt
 | []=>[k]
 |q::r=>bif zq k q then k::q::r else q::oH k r
noncomputable def tj (ks:List Txt):List Txt:=ks.foldl (λl k=>oH k l) []
noncomputable def y0 {α:Type}:List α->Option α
 | [x]=>some x
 |_=>none
noncomputable def LI {α:Type}:List α->Option (α×List α)
 |a::r=>some (a,r)
 | []=>none
noncomputable def two1 {α:Type} (l:List α):Option (α×α):=(LI l).bind λq=>(y0 q.2).map λy=>(q.1,y)
noncomputable def xY {α:Type} (l:List α):Option (α×α×α):=(LI l).bind λq=>(two1 q.2).map λy=>(q.1,y)
noncomputable def gd {α:Type} (b:Bool) (v:α):Option α:=bif b then some v else none
noncomputable def F8:V->Option Unit
 |.none=>some ()
 |_=>none
noncomputable def L5:V->Option Bool
 |.bool b=>some b
 |_=>none
noncomputable def z5:V->Option Int
 |.int i=>some i
 |_=>none
noncomputable def r6:V->Option Txt
 |.str s=>some s
 |_=>none
noncomputable def H9:V->Option (List Nat)
 |.bytes s=>some s
 |_=>none
noncomputable def N1:V->Option (List V)
 |.tup xs=>some xs
 |_=>none
noncomputable def kb:V->Option (Nat×Fr)
 |.obj c a=>some (c,a)
 |_=>none
noncomputable def L2:V->Option Nat
 |.loc i=>some i
 |_=>none
noncomputable def Ej:V->Option Nat
 |.fn i=>some i
 |_=>none
noncomputable def Bh:V->Option Nat
 |.cls i=>some i
 |_=>none
noncomputable def Bk:V->Option Bi
 |.bi b=>some b
 |_=>none
noncomputable def xm:V->Option (List V)
 |.g6 xs=>some xs
 |_=>none
noncomputable def sE:V->Option (List (Txt×V))
 |.E2 xs=>some xs
 |_=>none
noncomputable def Ei:V->Option (Nat×Fr)
 |.cu c a=>some (c,a)
 |_=>none
noncomputable def IB:X->Option Nat
 |.OK x=>some x
 |_=>none
noncomputable def jj:Int->Option Nat
 |.ofNat n=>some n
 |.negSucc _=>none
noncomputable def fL:O->Option (List V)
 |.list xs=>some xs
 |_=>none
noncomputable def ir:O->Option (Txt->Option V)
 |.map f=>some f
 |_=>none
noncomputable def tH:O->Option (List (Int×V))
 |.dB f=>some f
 |_=>none
noncomputable def tG:O->Option (Nat×Nat)
 |.inst c d=>some (c,d)
 |_=>none
noncomputable def oj:O->Option Unit
 |.emp=>some ()
 |_=>none
noncomputable def cY {α:Type} (a b:R α):R α:=match a with
 |.no _=>b
 |r=>r
noncomputable def freeze:V->Option V
 |.g6 xs=>some (.lst xs)
 |.E2 kvs=>some (.uq kvs)
 |.cu c a=>some (.obj c a)
 |.snap _=>none
 |.Z9 _=>none
 |v=>some v
noncomputable def Im:V->V
 |.g6 xs=>.snap xs
 |.E2 kvs=>.Z9 kvs
 |v=>v
noncomputable def dA:V->Bool
 |.snap _=>true
 |.Z9 _=>true
 |_=>false
noncomputable def OG:V->Option (List V)
 |.tup xs=>some xs
 |.lst xs=>some xs
 |.g6 xs=>some xs
 |.snap xs=>some xs
 |_=>none
noncomputable def ents:V->Option (List (Txt×V))
 |.uq kvs=>some kvs
 |.E2 kvs=>some kvs
 |.Z9 kvs=>some kvs
 |_=>none
noncomputable def t6 (s:Txt):Bool:=s.all λc=>Nat.blt c 128
noncomputable def Fh:V->Option (List V)
 |.lst xs=>some xs
 |.g6 xs=>some xs
 |_=>none
noncomputable def quiet:V->Bool
 |.snap _=>false
 |.Z9 _=>false
 |.g6 _=>false
 |.E2 _=>false
 |.cu _ _=>false
 |_=>true
noncomputable def M8 (x:Nat):List (Nat×V)->List (Nat×V)
 | []=>[]
 |(y,v)::r=>bif Nat.beq y x then M8 x r else(y,v)::M8 x r
noncomputable def C7:List (Nat×V)->List (Nat×V)
 | []=>[]
 |(x,v)::r=>bif quiet v then(x,v)::C7 r else M8 x (C7 r)
noncomputable def b2i (b:Bool):Int:=bif b then 1 else 0
noncomputable def E3:V->Option (List V)
 |.lst xs=>some xs
 |.g6 xs=>some xs
 |.snap xs=>some xs
 |_=>none
inductive D
 |none|bool (b:Bool)|int (i:Int)|str (s:Txt)|seq (t:Bool) (xs:List D)
noncomputable def AZ (v:V):Option D:=((F8 v).map λJ=>D.none).or <|((L5 v).map D.bool).or <|((z5 v).map D.int).or <|(r6 v).map D.str
noncomputable def U3 (f:V->Option D):List V->Option (List D)
 | []=>some []
 |v::r=>(f v).bind λd=>(U3 f r).map (d:: ·)
noncomputable def dat:Nat->V->Option D
 |0,v=>AZ v
 |n+1,v=>(AZ v).or <|((N1 v).bind λxs=>(U3 (dat n) xs).map (.seq true)).or <|(E3 v).bind λxs=>(U3 (dat n) xs).map (.seq false)
mutual
noncomputable def jN:D->D->Bool
 |.none,.none=>true
 |.bool x,.bool y=>x == y
 |.bool x,.int y=>decide (b2i x=y)
 |.int x,.bool y=>decide (x=b2i y)
 |.int x,.int y=>decide (x=y)
 |.str x,.str y=>r5 x y
 |.seq t xs,.seq u ys=>t == u&&wB xs ys
 |_,_=>false
noncomputable def wB:List D->List D->Bool
 | [],[]=>true
 |x::xs,y::ys=>jN x y&&wB xs ys
 |_,_=>false
end
noncomputable def Am (a b:V):Option Bool:=(dat 8 a).bind λx=>(dat 8 b).map λy=>jN x y
noncomputable def rG (v:V) (xs:List V):Option Bool:=(dat 8 v).bind λd=>(U3 (dat 8) xs).map λds=>ds.any λy=>jN y d
noncomputable def Du (d:D):Nat->List D->Option Nat
 |_,[]=>none
 |k,x::r=>bif jN x d then some k else Du d (k+1) r
noncomputable def EW (v:V) (xs:List V):Option Nat:=(dat 8 v).bind λd=>(U3 (dat 8) xs).bind λds=>Du d 0 ds
noncomputable def uy (n:Nat):Int->Nat
 |.ofNat k=>bif Nat.ble k n then k else n
 |.negSucc k=>n - (k+1)
noncomputable def uu (n:Nat):Option Int->Nat
 |none=>0
 |some i=>uy n i
noncomputable def Ft (n:Nat):Option Int->Nat
 |none=>n
 |some i=>uy n i
noncomputable def cut {α:Type} (lo hi:Option Int) (xs:List α):List α:=(xs.drop (uu xs.length lo)).take (Ft xs.length hi - uu xs.length lo)
noncomputable def Ov:V->Option Txt
 |.str s=>some s
 |_=>none
noncomputable def m9 (OI:List Txt) (f:Txt->Option V):List Txt:=OI.filter λk=>(f k).isSome
noncomputable def c3 (o:Option V):Bool:=match o with|some _=>true|none=>false
structure Fd where
 params:List Nat
 dD:List V
 body:List S
structure Cd where
 init:Option Nat
 keeps:Bool
 meths:List (Nat×Nat)
 body:List (List Nat×Bool×X):=[]
structure Pg where
 fns:List Fd
 pC:List Cd
 glob:List (Nat×V)
 univ:List Txt
 names:List Txt
inductive Fl|next|ret (v:V)
structure Ev where
 ev:Fr->X->Hp->R V
 tr:Fr->X->Hp->R Bool
 Y9:Fr->List S->Hp->R (Fl×Fr)
 run:Nat->List V->Hp->R V
noncomputable def fe (v:V):Option Bool:=(L5 v).or <|((F8 v).map λJ=>false).or <|(z5 v).map λi=>decide (i≠0)
noncomputable def isNone:V->Option Bool
 |.none=>some true
 |.g6 _=>some false
 |.lst _=>some false
 |.tup _=>some false
 |.str _=>some false
 |.int _=>some false
 |.bool _=>some false
 |_=>none
noncomputable def pf (a:V):Option Bool:=((r6 a).map λJ=>false).or ((z5 a).map λJ=>false)
noncomputable def LM (a:V) (o:O):Option Bool:=((ir o).bind λf=>(r6 a).map λk=>c3 (f k)).or <|((tH o).bind λkvs=>(z5 a).map λk=>c3 (EM kvs k)).or <|
 ((oj o).bind λJ=>pf a).or <|(fL o).bind (rG a)
noncomputable def IV (a b:V) (Y:Hp):Option Bool:=((r6 b).bind λt=>(r6 a).bind λs=>(y0 s).map λc=>t.any (Nat.beq c)).or <|((L2 b).bind λi=>(Y[i]?).bind (LM a)).or <|
 ((N1 b).bind (rG a)).or <|((E3 b).bind (rG a)).or <|(ents b).bind λkvs=>(r6 a).map λk=>c3 (bc kvs k)
noncomputable def yU (f:Int->Int->Bool) (a b:V):Option Bool:=(z5 a).bind λx=>(z5 b).map λy=>f x y
noncomputable def sm (op:ij) (a b:V) (Y:Hp):Option Bool:=match op with
 |.eq=>Am a b
 |.ne=>(Am a b).map not
 |.is=>(F8 b).bind λJ=>isNone a
 |.M6=>((F8 b).bind λJ=>isNone a).map not
 |.iz=>IV a b Y
 |.R8=>(IV a b Y).map not
 |.lt=>yU (λx y=>decide (x < y)) a b
 |.le=>yU (λx y=>decide (x≤y)) a b
 |.gt=>yU (λx y=>decide (x > y)) a b
 |.ge=>yU (λx y=>decide (x≥y)) a b
noncomputable def rF (a b:V) (f:Int->Int->Option V):Option V:=(z5 a).bind λx=>(z5 b).bind λy=>f x y
noncomputable def vB (a b:V) (f:Nat->Nat->Option V):Option V:=rF a b λx y=>(jj x).bind λx=>(jj y).bind λy=>f x y
noncomputable def Lk (a b:V):Option V:=(rF a b λx y=>some (.int (x+y))).or <|((r6 a).bind λx=>(r6 b).bind λy=>gd (Nat.ble (x.length+y.length) 1000) (.str (x++y))).or <|
 ((N1 a).bind λx=>(N1 b).bind λy=>gd (Nat.ble (x.length+y.length) 1000&&(!x.isEmpty&&!y.isEmpty)) (.tup (x++y))).or <|(E3 a).bind λx=>(E3 b).bind λy=>gd (Nat.ble (x.length+y.length) 1000) (.g6 (x++y))
noncomputable def xh (op:IS) (a b:V):Option V:=match op with
 |.add=>Lk a b
 |.sub=>rF a b λx y=>some (.int (x - y))
 |.mul=>vB a b λx y=>gd (Nat.ble x 1000&&Nat.ble y 1000) (.int (Int.ofNat (x * y)))
 |.mod=>rF a b λx y=>gd (decide (0 < y)&&decide (y < 1000000)) (.int (x % y))
 |.fdiv=>rF a b λx y=>gd (decide (0 < y)&&decide (y < 1000000)) (.int (x / y))
 |.pow=>vB a b λx y=>gd (Nat.ble y 64&&Nat.ble x 256) (.int (Int.ofNat (Nat.pow x y)))
 |.shl=>vB a b λx y=>gd (Nat.ble y 64&&Nat.ble x 256) (.int (Int.ofNat (x * Nat.pow 2 y)))
 |.shr=>vB a b λx y=>gd (Nat.ble y 64) (.int (Int.ofNat (x / Nat.pow 2 y)))
 |.band=>vB a b λx y=>some (.int (Int.ofNat (Nat.land x y)))
noncomputable def MK (n:Nat) (i:Int):Option Nat:=(jj i).bind λk=>gd (Nat.blt k n&&Nat.ble k 1000) k
noncomputable def jv (xs:List V) (i:V):Option V:=(z5 i).bind λk=>(MK xs.length k).bind λj=>xs[j]?
noncomputable def Jn (i:V) (o:O):Option V:=((ir o).bind λf=>(r6 i).bind f).or <|((tH o).bind λkvs=>(z5 i).bind (EM kvs)).or <|(fL o).bind λxs=>jv xs i
noncomputable def uY (o i:V) (Y:Hp):Option V:=((L2 o).bind λl=>(Y[l]?).bind (Jn i)).or <|((N1 o).bind λxs=>jv xs i).or <|((E3 o).bind λxs=>jv xs i).or <|(ents o).bind λkvs=>(r6 i).bind (bc kvs)
noncomputable def dY (o:V) (Y:Hp):Option (Nat×(Txt->Option V)):=(L2 o).bind λi=>(Y[i]?).bind λob=>(tG ob).bind λq=>(Y[q.2]?).bind λod=>(ir od).map λf=>(q.2,f)
noncomputable def FC (o:V) (a:Nat) (P:Pg) (Y:Hp):Option V:=((kb o).bind λq=>d6 q.2 a).or <|(dY o Y).bind λq=>(P.names[a]?).bind q.2
noncomputable def MB (v:V):Option Nat:=((r6 v).map List.length).or <|((H9 v).map List.length).or <|((N1 v).map List.length).or <|(E3 v).map List.length
noncomputable def allB:List V->Option Bool
 | []=>some true
 |v::r=>(L5 v).bind λb=>(allB r).map (b&& ·)
noncomputable def nv:List V->Option Int
 | []=>some 0
 |v::r=>(z5 v).bind λi=>(nv r).map (i+ ·)
noncomputable def dJ:List V->Option (List Nat)
 | []=>some []
 |v::r=>(z5 v).bind λi=>(jj i).bind λi=>(gd (Nat.blt i 256) i).bind λi=>(dJ r).map (i:: ·)
noncomputable def dI:List V->Option (List (Txt×V))
 | []=>some []
 |v::r=>(N1 v).bind λp=>(two1 p).bind λq=>(r6 q.1).bind λk=>(dI r).map ((k,q.2):: ·)
noncomputable def qD:List V->Option (List Txt)
 | []=>some []
 |v::r=>(r6 v).bind λs=>(qD r).map (s:: ·)
noncomputable def lS:List V->Option (List (List Nat))
 | []=>some []
 |v::r=>(H9 v).bind λs=>(lS r).map (s:: ·)
noncomputable def gk (sep:Txt):List Txt->Txt
 | []=>[]
 |s::r=>match r with
  | []=>s
  |_=>s++sep++gk sep r
noncomputable def z7 (kvs:List (Txt×V)):List (Txt×V)->List (Txt×V)
 | []=>kvs
 |(k,v)::r=>z7 (Cj kvs k v) r
noncomputable def DD (ks:List Txt):Bool:=Nat.blt ks.length 64&&ks.all t6
noncomputable def LQ (ks:List Txt):Option V:=gd (DD ks) (.g6 (ks.map .str))
noncomputable def small (n:Nat) (v:V):Option V:=gd (Nat.ble n 1000) v
noncomputable def N2 (xs:List V):Option (List V):=gd (Nat.ble xs.length 1000) xs
noncomputable def EU (b:Bi) (v:V):Option Bool:=match b with
 |.int=>((z5 v).map λJ=>true).or <|((L5 v).map λJ=>true).or <|(r6 v).map λJ=>false
 |.bool=>((z5 v).map λJ=>false).or <|((L5 v).map λJ=>true).or <|(r6 v).map λJ=>false
 |_=>none
noncomputable def Fz (v:V) (Y:Hp):Option V:=((L2 v).bind λi=>(Y[i]?).bind λo=>(fL o).bind λxs=>small xs.length (.int (Int.ofNat xs.length))).or <|(MB v).bind λn=>small n (.int (Int.ofNat n))
noncomputable def pN (P:Pg) (v:V) (Y:Hp):Option V:=((L2 v).bind λi=>(Y[i]?).bind λo=>((ir o).bind λf=>LQ (m9 P.univ f)).or <|(oj o).map λJ=>.g6 []).or <|(ents v).bind λkvs=>LQ (tj (kvs.map (·.1)))
noncomputable def Ef (v:V):Option V:=((H9 v).map .bytes).or <|(E3 v).bind λxs=>(N2 xs).bind λxs=>(dJ xs).map .bytes
noncomputable def Iv (v:V):Option V:=(E3 v).bind λxs=>(N2 xs).bind λxs=>(dI xs).map λps=>.E2 (z7 [] ps)
noncomputable def I5 (P:Pg) (b:Bi) (args:List V) (Y:Hp):Option V:=match b with
 |.len=>(y0 args).bind λv=>Fz v Y
 |.isinstance=>(two1 args).bind λq=>(Bk q.2).bind λb=>(EU b q.1).map .bool
 |.sorted=>(y0 args).bind λv=>pN P v Y
 |.all=>(y0 args).bind λv=>(E3 v).bind λxs=>(allB xs).map .bool
 |.sum=>(y0 args).bind λv=>(E3 v).bind λxs=>(nv xs).map .int
 |.bytes=>(y0 args).bind Ef
 |.dict=>(y0 args).bind Iv
 |.int=>(y0 args).bind λv=>(L5 v).map λb=>.int (b2i b)
 |.bool=>none
noncomputable def BE:List Nat->List V->Fr
 |x::xs,v::vs=>(x,v)::BE xs vs
 |_,_=>[]
noncomputable def U6 (fd:Fd) (args:List V):Option Fr:=
 gd (Nat.ble args.length fd.params.length&&Nat.ble (fd.params.length - args.length) fd.dD.length) (BE fd.params (args++fd.dD.drop (fd.dD.length - (fd.params.length - args.length))))
noncomputable def dictOf:List (V×V)->Option (List (Txt×V))
 | []=>some []
 |p::r=>(r6 p.1).bind λk=>(freeze p.2).bind λv=>(dictOf r).map ((k,v):: ·)
noncomputable def wC:V->Option (List V)
 |.tup xs=>some xs
 |.lst xs=>some xs
 |.g6 xs=>some xs
 |_=>none
noncomputable def Ga (k:Nat) (v:V):Option (List V):=((r6 v).bind λs=>gd (Nat.beq k 1&&t6 s) (s.map λc=>.str [c])).or (wC v)
noncomputable def uh (b:List Nat):List V:=(b.zipIdx).map λp=>.tup [.int (Int.ofNat p.2),.int (Int.ofNat p.1)]
noncomputable def gN (xs:List V):List V:=(xs.zipIdx).map λp=>.tup [.int (Int.ofNat p.2),p.1]
noncomputable def Cb (k:Nat) (v:V):Option (List V):=(gd (Nat.beq k 2) ()).bind λJ=>((H9 v).bind λb=>gd (Nat.ble b.length 1000) (uh b)).or <|(Fh v).bind λxs=>gd (Nat.ble xs.length 1000) (gN xs)
noncomputable def K1 (a b c:Nat):List V:=(List.range ((b - a+(c - 1)) / c)).map λ(i:Nat)=>.int (Int.ofNat (a+i * c))
noncomputable def GQ:List V->Option (List Nat)
 | []=>some []
 |v::r=>(z5 v).bind λi=>(jj i).bind λi=>(GQ r).map (i:: ·)
noncomputable def Gp (l:List Nat):Option (List V):=((y0 l).bind λb=>gd (Nat.ble b 1000) (K1 0 b 1)).or <|((two1 l).bind λq=>gd (Nat.ble q.1 1000&&Nat.ble q.2 1000) (K1 q.1 q.2 1)).or <|(xY l).bind λq=>gd (Nat.ble q.1 1000&&Nat.ble q.2.1 1000&&Nat.beq q.2.2 8) (K1 q.1 q.2.1 q.2.2)
noncomputable def yo (k:Nat) (vs:List V):Option (List V):=(gd (Nat.beq k 1) ()).bind λJ=>(GQ vs).bind Gp
noncomputable def aI (src:mK) (k:Nat) (vs:List V):Option (List V):=match src with
 |.val=>(y0 vs).bind (Ga k)
 |.enum=>(y0 vs).bind (Cb k)
 |.range=>yo k vs
noncomputable def jW (xs:List Nat) (v:V) (m:Fr):Option Fr:=match xs with
 | [x]=>some (putN m x v)
 | [x,y]=>(N1 v).bind λp=>(two1 p).map λq=>putN (putN m x q.1) y q.2
 |_=>none
noncomputable def aY:Nat:=0
noncomputable def fS:Nat:=1
noncomputable def ro:Nat:=2
noncomputable def aW:Nat:=3
noncomputable def N4:Nat:=4
noncomputable def fR:Nat:=5
noncomputable def putAll (f:Txt->Option V):List (Txt×V)->Txt->Option V
 | []=>f
 |(k,v)::r=>putAll (t9 f k (some v)) r
noncomputable def tN (i:Nat) (xs args:List V) (Y:Hp):R V:=(b8 20 ((y0 args).bind freeze) Y).bind λv Y=>.ok .none (Y.set i (.list (xs++[v])))
noncomputable def Mz (i:Nat) (f:Txt->Option V) (args:List V) (Y:Hp):R V:=cY
 ((b8 23 ((y0 args).bind r6) Y).bind λk Y=>(b8 23 (f k) Y).bind λv Y=>.ok v (Y.set i (.map (t9 f k none))))
 ((b8 24 ((two1 args).bind λq=>(F8 q.2).bind λJ=>r6 q.1) Y).bind λk Y=>.ok ((f k).getD .none) (Y.set i (.map (t9 f k none))))
noncomputable def CV (OI:List Txt) (i:Nat) (f:Txt->Option V) (args:List V) (Y:Hp):R V:=(b8 25 ((y0 args).bind sE) Y).bind λkvs Y=>bif Nat.ble kvs.length 1000&&kvs.all (λp=>OI.any (r5 p.1))then .ok .none (Y.set i (.map (putAll f kvs)))else .no 25
noncomputable def JR (OI:List Txt) (i:Nat) (f:Txt->Option V) (m:Nat) (args:List V) (Y:Hp):R V:=bif Nat.beq m fS then(b8 22 ((y0 args).bind r6) Y).bind λk Y=>.ok ((f k).getD .none) Y
 else bif Nat.beq m ro then Mz i f args Y else bif Nat.beq m aW then CV OI i f args Y else .no 26
noncomputable def JS (m:Nat) (args:List V) (Y:Hp):R V:=bif Nat.beq m fS then(b8 27 ((y0 args).bind r6) Y).bind λJ Y=>.ok .none Y
 else bif Nat.beq m ro then(b8 28 ((two1 args).bind λq=>(F8 q.2).bind λJ=>r6 q.1) Y).bind λJ Y=>.ok .none Y else .no 29
noncomputable def EL (i:Nat) (xs:List V) (m:Nat) (args:List V) (Y:Hp):R V:=bif Nat.beq m aY&&Nat.ble xs.length 1000 then tN i xs args Y else .no 21
noncomputable def GY (s:Txt) (args:List V):Option V:=(y0 args).bind λv=>(E3 v).bind λxs=>(N2 xs).bind λxs=>(qD xs).bind λts=>(gd (Nat.ble (ts.foldl (λn t=>n+t.length+s.length) 0) 1000) ()).bind λJ=>small (gk s ts).length (.str (gk s ts))
noncomputable def GZ (args:List V):Option V:=(y0 args).bind λv=>(E3 v).bind λxs=>(N2 xs).bind λxs=>(lS xs).bind λts=>small ts.flatten.length (.bytes ts.flatten)
noncomputable def JT (kvs:List (Txt×V)) (args:List V):Option V:=((y0 args).bind λk=>(r6 k).map λk=>(bc kvs k).getD .none).or <|(two1 args).bind λq=>(r6 q.1).map λk=>(bc kvs k).getD q.2
noncomputable def rB (xs:List V) (args:List V):Option V:=(y0 args).bind λv=>(EW v xs).map λk=>.int (Int.ofNat k)
noncomputable def ou (OI:List Txt) (o:V) (m:Nat) (args:List V) (Y:Hp):R V:=
 cY ((b8 30 (L2 o) Y).bind λi Y=>(b8 30 (Y[i]?) Y).bind λob Y=>cY ((b8 21 (fL ob) Y).bind λxs Y=>EL i xs m args Y) <| cY ((b8 21 (ir ob) Y).bind λf Y=>JR OI i f m args Y) ((b8 21 (oj ob) Y).bind λJ Y=>JS m args Y)) <|
 cY ((b8 33 (r6 o) Y).bind λs Y=>bif Nat.beq m fR&&Nat.ble s.length 1000 then b8 31 (GY s args) Y else .no 33) <|
 cY ((b8 36 (H9 o) Y).bind λs Y=>bif Nat.beq m fR&&s.isEmpty then b8 34 (GZ args) Y else .no 36) <|
 cY ((b8 39 (N1 o) Y).bind λxs Y=>bif Nat.beq m N4&&Nat.ble xs.length 1000 then b8 37 (rB xs args) Y else .no 39) <|
 cY ((b8 39 (E3 o) Y).bind λxs Y=>bif Nat.beq m N4&&Nat.ble xs.length 1000 then b8 37 (rB xs args) Y else .no 39) <|
 (b8 42 (ents o) Y).bind λkvs Y=>bif Nat.beq m fS then b8 40 (JT kvs args) Y else .no 41
noncomputable def KZ (m:Nat) (o:O):Option Unit:=((fL o).bind λJ=>gd (Nat.beq m aY) ()).or <|((ir o).bind λJ=>gd (Nat.beq m fS || Nat.beq m ro || Nat.beq m aW) ()).or <|(oj o).bind λJ=>gd (Nat.beq m fS || Nat.beq m ro) ()
noncomputable def DY (o:V) (m:Nat) (Y:Hp):Option Unit:=((L2 o).bind λi=>(Y[i]?).bind (KZ m)).or <|((r6 o).bind λJ=>gd (Nat.beq m fR) ()).or <|((H9 o).bind λJ=>gd (Nat.beq m fR) ()).or <|
 ((N1 o).bind λJ=>gd (Nat.beq m N4) ()).or <|((E3 o).bind λJ=>gd (Nat.beq m N4) ()).or <|(ents o).bind λJ=>gd (Nat.beq m fS) ()
noncomputable def gU (o:V) (Y:Hp):Option Nat:=((kb o).map (·.1)).or <|(L2 o).bind λi=>(Y[i]?).bind λob=>(tG ob).map (·.1)
noncomputable def kM {α:Type} (o:Option α):Option Unit:=match o with
 |none=>some ()
 |some _=>none
noncomputable def pO (P:Pg) (o:V) (m:Nat) (Y:Hp):Option Unit:=((kb o).bind λq=>kM (d6 q.2 m)).or <|(dY o Y).bind λq=>(P.names[m]?).bind λk=>kM (q.2 k)
noncomputable def kj (P:Pg) (l:Nat) (f:Txt->Option V) (k:Txt) (v:V) (Y:Hp):R Unit:=bif P.univ.any (r5 k)then .ok () (Y.set l (.map (t9 f k (some v))))else .no 50
noncomputable def Jr (P:Pg) (l:Nat) (i v:V) (ob:O) (Y:Hp):R Unit:=cY ((b8 51 (ir ob) Y).bind λf Y=>(b8 51 (r6 i) Y).bind λk Y=>kj P l f k v Y) <|
 cY ((b8 52 (tH ob) Y).bind λkvs Y=>(b8 52 (z5 i) Y).bind λk Y=>bif Nat.ble kvs.length 1000 then .ok () (Y.set l (.dB (Gi kvs k v)))else .no 51) <|
 (b8 53 (oj ob) Y).bind λJ Y=>cY ((b8 53 (r6 i) Y).bind λk Y=>kj P l (λJ=>none) k v Y) ((b8 54 (z5 i) Y).bind λk Y=>.ok () (Y.set l (.dB [(k,v)])))
noncomputable def S7 (P:Pg) (o i v:V) (Y:Hp):R Unit:=(b8 56 (L2 o) Y).bind λl Y=>(b8 55 (Y[l]?) Y).bind λob Y=>Jr P l i v ob Y
noncomputable def fx (P:Pg) (o:V) (a:Nat) (v:V) (Y:Hp):R Unit:=(b8 61 (dY o Y) Y).bind λq Y=>(b8 60 (P.names[a]?) Y).bind λk Y=>kj P q.1 q.2 k v Y
noncomputable def G7 (r:Ev) (m:Fr):List X->Hp->R (List V)
 | [],Y=>.ok [] Y
 |e::es,Y=>(r.ev m e Y).bind λv Y=>(b8 70 (freeze v) Y).bind λv Y=>(G7 r m es Y).bind λvs Y=>.ok (v::vs) Y
noncomputable def m7 (r:Ev) (m:Fr):List X->Hp->R (List V)
 | [],Y=>.ok [] Y
 |e::es,Y=>(r.ev m e Y).bind λv Y=>(m7 r m es Y).bind λvs Y=>.ok (v::vs) Y
noncomputable def lJ (r:Ev) (m:Fr):Option X->Hp->R (Option Int)
 |none,Y=>.ok none Y
 |some e,Y=>(r.ev m e Y).bind λv Y=>(b8 95 (z5 v) Y).bind λi Y=>.ok (some i) Y
noncomputable def br (r:Ev) (m:Fr):List (X×X)->Hp->R (List (V×V))
 | [],Y=>.ok [] Y
 |p::es,Y=>(r.ev m p.1 Y).z6.bind λkv Y=>(r.ev m p.2 Y).z6.bind λv Y=>(br r m es Y).bind λvs Y=>.ok ((kv,v)::vs) Y
noncomputable def DI (r:Ev) (m:Fr) (b:Bool):X->List X->Hp->R V
 |e,[],Y=>r.ev m e Y
 |e,e2::es,Y=>(r.ev m e Y).bind λv Y=>(b8 72 (fe v) Y).bind λt Y=>bif t == b then DI r m b e2 es Y else .ok v Y
noncomputable def sd (r:Ev) (m:Fr) (b:Bool) (es:List X) (Y:Hp):R V:=match es with
 | []=>.no 71
 |e::es=>DI r m b e es Y
noncomputable def bQ (r:Ev) (m:Fr) (b:Bool):List X->Hp->R Bool
 | [],Y=>.ok b Y
 |e::es,Y=>(r.tr m e Y).bind λt Y=>bif t == b then bQ r m b es Y else .ok t Y
noncomputable def wR (r:Ev) (m:Fr) (a:V):ij->X->List (ij×X)->Hp->R Bool
 |op,e,[],Y=>(r.ev m e Y).bind λb Y=>(b8 74 (sm op a b Y) Y).bind λt Y=>.ok t Y
 |op,e,p::rest,Y=>(r.ev m e Y).bind λb Y=>(b8 74 (sm op a b Y) Y).bind λt Y=>bif t then wR r m b p.1 p.2 rest Y else .ok false Y
noncomputable def Z0 (r:Ev) (m:Fr) (a:V) (rs:List (ij×X)) (Y:Hp):R Bool:=match rs with
 | []=>.no 73
 |p::rest=>wR r m a p.1 p.2 rest Y
noncomputable def KU (r:Ev) (m:Fr) (cond:Option X) (Y:Hp):R Bool:=match cond with
 |none=>.ok true Y
 |some c=>(r.tr m c Y).z6
noncomputable def jT (r:Ev) (m:Fr) (elt:X) (xs:List Nat) (cond:Option X) (v:V) (Y:Hp):R (List V):=(b8 75 (jW xs v m) Y).bind λm Y=>(KU r m cond Y).bind λb Y=>
 bif b then(r.ev m elt Y).z6.bind λy Y=>(b8 76 (freeze y) Y).bind λy Y=>.ok [y] Y else .ok [] Y
noncomputable def bA (r:Ev) (m:Fr) (elt:X) (xs:List Nat) (cond:Option X):List V->Hp->R (List V)
 | [],Y=>.ok [] Y
 |v::vs,Y=>(jT r m elt xs cond v Y).bind λy Y=>(bA r m elt xs cond vs Y).bind λys Y=>.ok (y++ys) Y
noncomputable def listAt (Y:Hp) (l:Nat):Option (List V):=(Y[l]?).bind fL
noncomputable def jU (r:Ev) (m:Fr) (elt:X) (xs:List Nat) (cond:Option X) (l:Nat):Nat->Nat->Hp->R (List V)
 |0,_,_=>.no 77
 |k+1,j,Y=>(b8 78 (listAt Y l) Y).bind λus Y=>og us[j]? (λv=>(jT r m elt xs cond v Y).bind λy Y=>(jU r m elt xs cond l k (j+1) Y).bind λys Y=>.ok (y++ys) Y) (.ok [] Y)
noncomputable def gc (src:mK) (vs:List V):Option Nat:=match src with
 |.val=>(y0 vs).bind L2
 |_=>none
noncomputable def px (r:Ev) (m:Fr) (elt:X) (xs:List Nat) (cond:Option X) (src:mK) (vs:List V) (Y:Hp):R (List V):=og (gc src vs) (λl=>bif Nat.beq xs.length 1 then jU r (C7 m) elt xs cond l 64 0 Y else .no 102) <|
 (b8 101 (aI src xs.length vs) Y).bind λitems Y=>bif Nat.ble items.length 1000 then bA r (C7 m) elt xs cond items Y else .no 103
noncomputable def IX:Fl->V
 |.ret v=>v
 |.next=>.none
noncomputable def Fv (P:Pg) (r:Ev) (k:Nat) (args:List V) (Y:Hp):R V:=(b8 80 (P.fns[k]?) Y).bind λfd Y=>(b8 81 (U6 fd args) Y).bind λm Y=>(r.Y9 m fd.body Y).bind λp Y=>.ok (IX p.1) Y
noncomputable def putL (at_:Fr):List Nat->List V->Fr
 |a::as,v::vs=>putL (putN at_ a v) as vs
 |_,_=>at_
noncomputable def gR (r:Ev) (m:Fr):List (List Nat×Bool×X)->Fr->Hp->R Fr
 | [],at_,Y=>.ok at_ Y
 |p::rest,at_,Y=>(r.ev m p.2.2 Y).bind λv Y=>
  bif p.2.1 then(b8 87 (wC v) Y).bind λvs Y=>bif Nat.beq vs.length p.1.length&&Nat.ble (at_.length+p.1.length) 1000 then gR r m rest (putL at_ p.1 vs) Y else .no 87
  else(b8 87 (freeze v) Y).bind λv Y=>(b8 87 (y0 p.1) Y).bind λa Y=>bif Nat.ble at_.length 1000 then gR r m rest (putN at_ a v) Y else .no 87
noncomputable def jP (P:Pg) (r:Ev) (c:Nat) (args:List V) (Y:Hp):R V:=(b8 82 (P.pC[c]?) Y).bind λcd Y=>(b8 83 cd.init Y).bind λk Y=>
 bif cd.keeps then(r.run k (.loc (Y.length+1)::args) (Y++[.map (λJ=>none),.inst c Y.length])).z6.bind λv c7=>(b8 85 (F8 v) c7).bind λJ c7=>.ok (.loc (Y.length+1)) c7
 else(b8 84 (P.fns[k]?) Y).bind λfd Y=>(b8 86 (U6 ⟨fd.params.tail,fd.dD,[]⟩ args) Y).bind λm Y=>(gR r m cd.body [] Y).z6.bind λat_ Y=>.ok (.obj c at_) Y
noncomputable def Y4:V->Option V
 |.cu ..=>none
 |v=>some (Im v)
noncomputable def AO (P:Pg) (r:Ev) (m:Fr) (args:List X) (fv:V) (Y:Hp):R V:=cY ((b8 88 (Bk fv) Y).bind λb Y=>(m7 r m args Y).bind λvs Y=>b8 88 (I5 P b vs Y) Y) <|
 cY ((b8 89 (Ej fv) Y).bind λk Y=>(G7 r m args Y).bind λvs Y=>r.run k vs Y) ((b8 89 (Bh fv) Y).bind λc Y=>(G7 r m args Y).bind λvs Y=>jP P r c vs Y)
noncomputable def ag (P:Pg) (c n:Nat):Option Nat:=(P.pC[c]?).bind λcd=>(d6 (cd.meths.map λp=>(p.1,V.fn p.2)) n).bind Ej
noncomputable def JN (P:Pg) (r:Ev) (m:Fr) (args:List X) (n:Nat) (ov:V) (Y:Hp):R V:=og (gU ov Y) (λc=>(b8 93 (ag P c n) Y).bind λk Y=>(b8 92 (pO P ov n Y) Y).bind λJ Y=>(G7 r m args Y).bind λvs Y=>r.run k (ov::vs) Y) <|
 (b8 91 (DY ov n Y) Y).bind λJ Y=>(m7 r m args Y).bind λvs Y=>ou P.univ ov n vs Y
noncomputable def fk (o:V) (l h:Option Int):Option V:=((r6 o).bind λs=>gd (Nat.ble s.length 1000) (.str (cut l h s))).or <|((H9 o).bind λs=>gd (Nat.ble s.length 1000) (.bytes (cut l h s))).or <|(E3 o).bind λxs=>gd (Nat.ble xs.length 1000) (.g6 (cut l h xs))
noncomputable def cB:R V->R V
 |.ok v Y=>(b8 102 (freeze v) Y).bind λv Y=>.ok (.tup [.str [],v]) Y
 |.exc t Y=>.ok (.tup [.str t,.none]) Y
 |.no w=>.no w
noncomputable def s7 (P:Pg) (r:Ev) (m:Fr) (e:X) (Y:Hp):R V:=match e with
 |.lit v=>.ok v Y
 |.OK x=>og (d6 m x) (λv=>b8 89 (Y4 v) Y) (b8 90 (d6 P.glob x) Y)
 |.bin op l q=>(r.ev m l Y).bind λa Y=>(r.ev m q Y).bind λb Y=>b8 91 (xh op a b) Y
 |.not e=>(r.ev m e Y).bind λv Y=>(b8 87 (fe v) Y).bind λb Y=>.ok (.bool (!b)) Y
 |.neg e=>(r.ev m e Y).bind λa Y=>(b8 92 (z5 a) Y).bind λi Y=>.ok (.int (-i)) Y
 |.R5 es=>sd r m true es Y
 |.mN es=>sd r m false es Y
 |.cmp l rs=>(r.ev m l Y).bind λa Y=>(Z0 r m a rs Y).bind λb Y=>.ok (.bool b) Y
 |.ite t b e=>(r.tr m t Y).bind λc Y=>bif c then r.ev m b Y else r.ev m e Y
 |.call f args=>(r.ev m f Y).bind λfv Y=>AO P r m args fv Y
 |.l5 o n args=>(r.ev m o Y).bind λov Y=>JN P r m args n ov Y
 |.attr o a=>(r.ev m o Y).bind λov Y=>b8 94 (FC ov a P Y) Y
 |.sub o i=>(r.ev m o Y).bind λov Y=>(r.ev m i Y).bind λiv Y=>b8 95 (uY ov iv Y) Y
 |.slice o lo hi=>(r.ev m o Y).bind λov Y=>(lJ r m lo Y).bind λl Y=>(lJ r m hi Y).bind λh Y=>b8 96 (fk ov l h) Y
 |.list es=>(G7 r m es Y).bind λvs Y=>(b8 97 (N2 vs) Y).bind λvs Y=>.ok (.g6 vs) Y
 |.tuple es=>(G7 r m es Y).bind λvs Y=>(b8 97 (N2 vs) Y).bind λvs Y=>.ok (.tup vs) Y
 |.dict kvs=>(br r m kvs Y).bind λps Y=>(b8 99 (dictOf ps) Y).bind λds Y=>.ok (.E2 (z7 [] ds)) Y
 |.Y5 es=>(G7 r m es Y).bind λvs Y=>(b8 97 (N2 vs) Y).bind λvs Y=>.ok (.loc Y.length) (Y++[.list vs])
 |.K3 kvs=>match kvs with
  | []=>.ok (.loc Y.length) (Y++[.emp])
  |_::_=>(br r m kvs Y).bind λps Y=>(b8 100 (dictOf ps) Y).bind λds Y=>(b8 99 (gd (ds.all λp=>P.univ.any (r5 p.1)) ()) Y).bind λJ Y=>.ok (.loc Y.length) (Y++[.map (bc (z7 [] ds))])
 |.comp p elt xs src it cond=>(m7 r m it Y).z6.bind λvs Y=>(px r m elt xs cond src vs Y).bind λys Y=>
  bif p then .ok (.loc Y.length) (Y++[.list ys])else .ok (.g6 ys) Y
 |.A3 body=>cB (r.ev (C7 m) body Y)
 |.l4 o=>(r.ev m o Y).bind λov Y=>(b8 104 (L2 ov) Y).bind λi Y=>(b8 103 (Y[i]?) Y).bind λob Y=>cY
  ((b8 103 (ir ob) Y).bind λf Y=>(b8 103 (gd (Nat.blt (m9 P.univ f).length 8&&(m9 P.univ f).all t6) ()) Y).bind λJ Y=>.ok (.g6 ((m9 P.univ f).map λk=>.tup [.str k,(f k).getD .none])) Y)
  ((b8 103 (oj ob) Y).bind λJ Y=>.ok (.g6 []) Y)
noncomputable def xW (r:Ev) (m:Fr) (e:X) (Y:Hp):R Bool:=match e with
 |.not e=>(r.tr m e Y).bind λb Y=>.ok (!b) Y
 |.R5 es=>bQ r m true es Y
 |.mN es=>bQ r m false es Y
 |.ite t b e=>(r.tr m t Y).bind λc Y=>bif c then r.tr m b Y else r.tr m e Y
 |.cmp l rs=>(r.ev m l Y).bind λa Y=>Z0 r m a rs Y
 |e=>(r.ev m e Y).bind λv Y=>b8 110 (fe v) Y
noncomputable def tK:V->Option V
 |.g6 xs=>some (.g6 xs)
 |.E2 kvs=>some (.E2 kvs)
 |_=>none
noncomputable def FY (P:Pg) (x a:Nat) (v:V) (m:Fr) (Y:Hp):R Fr:=(b8 123 (d6 m x) Y).bind λo Y=>cY ((b8 122 (Ei o) Y).bind λq Y=>bif Nat.ble q.2.length 1000 then .ok (putN m x (.cu q.1 (putN q.2 a v))) Y else .no 122) ((fx P o a v Y).bind λJ Y=>.ok m Y)
noncomputable def ED (xs:List V) (i v:V):Option V:=(z5 i).bind λk=>(MK xs.length k).map λj=>.g6 (xs.set j v)
noncomputable def EE (kvs:List (Txt×V)) (i v:V):Option V:=(r6 i).bind λk=>gd (Nat.ble kvs.length 1000) (.E2 (Cj kvs k v))
noncomputable def store (P:Pg) (r:Ev) (t:T) (v:V) (m:Fr) (Y:Hp):R Fr:=match t with
 |.OK x=>(b8 120 (freeze v) Y).bind λv Y=>.ok (putN m x v) Y
 |.B4 x=>(b8 121 (tK v) Y).bind λv Y=>.ok (putN m x v) Y
 |.attr o a=>(b8 124 (IB o) Y).bind λx Y=>(b8 122 (freeze v) Y).bind λv Y=>FY P x a v m Y
 |.item o i=>(b8 125 (freeze v) Y).bind λv Y=>(r.ev m o Y).bind λov Y=>(r.ev m i Y).bind λiv Y=>(S7 P ov iv v Y).bind λJ Y=>.ok m Y
 |.Y6 x i=>(b8 125 (freeze v) Y).bind λv Y=>(b8 127 (d6 m x) Y).bind λo Y=>(r.ev m i Y).bind λiv Y=>
  (b8 126 (((sE o).bind λkvs=>EE kvs iv v).or <|(xm o).bind λxs=>ED xs iv v) Y).bind λu Y=>.ok (putN m x u) Y
noncomputable def storeAll (P:Pg) (r:Ev):List T->List V->Fr->Hp->R Fr
 | [],[],m,Y=>.ok m Y
 |t::ts,v::vs,m,Y=>(store P r t v m Y).bind λm Y=>storeAll P r ts vs m Y
 |_,_,_,_=>.no 128
noncomputable def gT (p:Fl×Fr) (k:Fr->Hp->R (Fl×Fr)) (Y:Hp):R (Fl×Fr):=match p.1 with
 |.ret v=>.ok (.ret v,p.2) Y
 |.next=>k p.2 Y
noncomputable def Q4 (r:Ev) (xs:List Nat) (b:List S):List V->Fr->Hp->R (Fl×Fr)
 | [],m,Y=>.ok (.next,m) Y
 |v::vs,m,Y=>(b8 130 (jW xs v m) Y).bind λm Y=>(r.Y9 m b Y).z6.bind λp Y=>gT p (Q4 r xs b vs) Y
noncomputable def Dz (r:Ev) (xs:List Nat) (b:List S) (l:Nat):Nat->Nat->Fr->Hp->R (Fl×Fr)
 |0,_,_,_=>.no 132
 |k+1,j,m,Y=>(b8 133 (listAt Y l) Y).bind λus Y=>og us[j]? (λv=>(b8 130 (jW xs v m) Y).bind λm Y=>(r.Y9 m b Y).z6.bind λp Y=>gT p (Dz r xs b l k (j+1)) Y) (.ok (.next,m) Y)
noncomputable def G3 (r:Ev) (t:X) (b:List S):Nat->Fr->Hp->R (Fl×Fr)
 |0,_,_=>.no 131
 |n+1,m,Y=>(r.tr m t Y).z6.bind λc Y=>bif c then(r.Y9 m b Y).z6.bind λp Y=>gT p (G3 r t b n) Y else .ok (.next,m) Y
noncomputable def oQ:V->Bool
 |.snap _=>false
 |.Z9 _=>false
 |.E2 _=>false
 |.cu _ _=>false
 |_=>true
noncomputable def HI (ts:List T) (vs:List V):Bool:=vs.all oQ&&(Nat.beq vs.length ts.length&&Nat.ble vs.length 1000)
noncomputable def ownOf (e:X) (m:Fr):Option V:=(IB e).bind λx=>(d6 m x).bind tK
noncomputable def Mr (r:Ev) (e:X) (m:Fr) (Y:Hp):R (Fl×Fr):=og (ownOf e m) (λv=>.ok (.ret v,m) Y) <|(r.ev m e Y).bind λv Y=>bif dA v then .no 149 else .ok (.ret v,m) Y
noncomputable def EA (r:Ev) (x:Nat) (e:X) (m:Fr) (f:List V->V->List V) (Y:Hp):R (Fl×Fr):=(b8 145 ((d6 m x).bind xm) Y).bind λxs Y=>(r.ev m e Y).bind λv Y=>(b8 145 (freeze v) Y).bind λv Y=>
 bif Nat.ble xs.length 1000 then .ok (.next,putN m x (.g6 (f xs v))) Y else .no 145
noncomputable def g8 (P:Pg) (r:Ev) (m:Fr) (s:S) (Y:Hp):R (Fl×Fr):=match s with
 |.assign t e=>(r.ev m e Y).bind λv Y=>(store P r t v m Y).bind λm Y=>.ok (.next,m) Y
 |.N0 ts es=>(m7 r m es Y).bind λvs Y=>(b8 138 (gd (HI ts vs) ()) Y).bind λJ Y=>(storeAll P r ts vs m Y).bind λm Y=>.ok (.next,m) Y
 |.F7 ts es=>(m7 r m es Y).bind λvs Y=>(b8 138 (gd (HI ts vs) ()) Y).bind λJ Y=>(storeAll P r ts.reverse vs.reverse m Y).bind λm Y=>.ok (.next,m) Y
 |.H4 ts e=>(r.ev m e Y).bind λv Y=>(b8 141 (wC v) Y).bind λvs Y=>(b8 140 (gd (Nat.beq vs.length ts.length) ()) Y).bind λJ Y=>(storeAll P r ts vs m Y).bind λm Y=>.ok (.next,m) Y
 |.expr e=>(r.ev m e Y).bind λJ Y=>.ok (.next,m) Y
 |.ite t b e=>(r.tr m t Y).bind λc Y=>bif c then r.Y9 m b Y else r.Y9 m e Y
 |.y6 t b=>G3 r t b 20 m Y
 |.F2 xs src it b=>(m7 r m it Y).z6.bind λvs Y=>og (gc src vs) (λl=>bif Nat.beq xs.length 1 then Dz r xs b l 64 0 m Y else .no 139) <|(b8 142 (aI src xs.length vs) Y).bind λitems Y=>Q4 r xs b items m Y
 |.ret e=>Mr r e m Y
 |.raise e=>(r.ev m e Y).bind λv Y=>(b8 143 (r6 v) Y).bind λt Y=>.exc t Y
 |.o8=>.no 144
 |.F1 x e=>EA r x e m (λxs v=>xs++[v]) Y
 |.K4 x e=>EA r x e m (λxs v=>v::xs) Y
 |.fT y x=>(b8 147 ((d6 m x).bind λo=>(xm o).bind LI) Y).bind λq Y=>bif Nat.ble q.2.length 1000 then .ok (.next,putN (putN m x (.g6 q.2)) y q.1) Y else .no 147
 |.J0 x e=>(b8 148 ((d6 m x).bind sE) Y).bind λold Y=>(r.ev m e Y).bind λv Y=>(b8 148 (freeze v) Y).bind λu Y=>(b8 148 (ents u) Y).bind λkvs Y=>
  bif Nat.ble (old.length+kvs.length) 1000 then .ok (.next,putN m x (.E2 (z7 old kvs))) Y else .no 148
 |.pass=>.ok (.next,m) Y
noncomputable def a8 (P:Pg) (r:Ev):Fr->List S->Hp->R (Fl×Fr)
 |m,[],Y=>.ok (.next,m) Y
 |m,s::ss,Y=>(g8 P r m s Y).bind λp Y=>gT p (λm Y=>a8 P r m ss Y) Y
noncomputable def Mi:Ev:=⟨λJ J J=>.no 0,λJ J J=>.no 0,λJ J J=>.no 0,λJ J J=>.no 0⟩
noncomputable def FZ (P:Pg) (r:Ev):Ev:=⟨s7 P r,xW r,a8 P r,Fv P r⟩
noncomputable def b9 (P:Pg):Nat->Ev
 |0=>Mi
 |n+1=>FZ P (b9 P n)
end Mine
end
section
namespace Mine
noncomputable def gK:Fd:=⟨[6],[],
 [.assign (.attr (.OK 6) 7) (.lit (V.int 0)),
  .assign (.attr (.OK 6) 8) (.K3 []),
  .assign (.attr (.OK 6) 9) (.K3 []),
  .expr (.l5 (.OK 6) 10 [])]⟩
noncomputable def aq:Fd:=⟨[6,11],[],
 [.assign (.attr (.OK 6) 7) (.bin .add (.attr (.OK 6) 7) (.lit (V.int 1))),
  .assign (.item (.attr (.OK 6) 8) (.attr (.OK 6) 7)) (.call (.OK 12) [(.OK 11)]),
  .ret (.attr (.OK 6) 7)]⟩
noncomputable def gJ:Fd:=⟨[6,13],[],
 [.ite (.cmp (.OK 13) [(.R8,(.attr (.OK 6) 8))])
  [.o8]
  [],
  .ret (.sub (.attr (.OK 6) 8) (.OK 13))]⟩
noncomputable def bq:Fd:=⟨[6],[],
 [.assign (.attr (.OK 6) 7) (.bin .add (.attr (.OK 6) 7) (.lit (V.int 1))),
  .assign (.item (.attr (.OK 6) 9) (.attr (.OK 6) 7)) (.K3 []),
  .ret (.attr (.OK 6) 7)]⟩
noncomputable def gI:Fd:=⟨[6,13],[],
 [.ite (.cmp (.OK 13) [(.R8,(.attr (.OK 6) 9))])
  [.o8]
  [],
  .ret (.sub (.attr (.OK 6) 9) (.OK 13))]⟩
noncomputable def iG:Fd:=⟨[6,13,14],[],
 [.ret (.l5 (.l5 (.OK 6) 15 [(.OK 13)]) 1 [(.OK 14)])]⟩
noncomputable def o6:Fd:=⟨[6,13,14,16],[],
 [.ite (.not (.cmp (.lit (V.int 0)) [(.le,(.OK 16)),(.lt,(.bin .pow (.lit (V.int 2)) (.lit (V.int 64))))]))
  [.o8]
  [],
  .assign (.item (.l5 (.OK 6) 15 [(.OK 13)]) (.OK 14)) (.OK 16)]⟩
noncomputable def gH:Fd:=⟨[6,13,14],[],
 [.assign (.OK 17) (.l5 (.OK 6) 15 [(.OK 13)]),
  .ite (.cmp (.OK 14) [(.R8,(.OK 17))])
   [.o8]
   [],
  .ret (.l5 (.OK 17) 2 [(.OK 14)])]⟩
noncomputable def S0:Fd:=⟨[6,13],[],
 [.ret (.call (.OK 18) [(.l5 (.OK 6) 15 [(.OK 13)])])]⟩
noncomputable def oY:Fd:=⟨[11],[],
 [.ret (.call (.OK 19) [(.comp false (.bin .shl (.OK 20) (.bin .mul (.lit (V.int 8)) (.OK 21))) [21,20] .enum [(.OK 11)] none)])]⟩
noncomputable def oX:Fd:=⟨[16,22],[],
 [.ite (.not (.cmp (.lit (V.int 0)) [(.le,(.OK 16)),(.lt,(.bin .pow (.lit (V.int 256)) (.OK 22)))]))
  [.o8]
  [],
  .ret (.call (.OK 12) [(.comp false (.bin .band (.bin .shr (.OK 16) (.bin .mul (.lit (V.int 8)) (.OK 21))) (.lit (V.int 255))) [21] .range [(.OK 22)] none)])]⟩
noncomputable def lz:Fd:=⟨[23],[],
 [.ret (.l5 (.lit (V.bytes [])) 5 [(.comp false (.call (.OK 24) [(.OK 16),(.OK 25)]) [16] .val [(.OK 23)] none)])]⟩
noncomputable def lE:Fd:=⟨[11],[],
 [.ite (.cmp (.bin .mod (.call (.OK 26) [(.OK 11)]) (.OK 25)) [(.ne,(.lit (V.int 0)))])
  [.o8]
  [],
  .ret (.comp false (.call (.OK 27) [(.slice (.OK 11) (some (.OK 28)) (some (.bin .add (.OK 28) (.OK 25))))]) [28] .range [(.lit (V.int 0)),(.call (.OK 26) [(.OK 11)]),(.OK 25)] none)]⟩
noncomputable def gL:Fd:=⟨[6,34],[],
 []⟩
noncomputable def iH:Fd:=⟨[6],[],
 [.assign (.OK 40) (.list [(.attr (.OK 6) 29),(.attr (.OK 6) 30),(.attr (.OK 6) 31),(.attr (.OK 6) 32),(.attr (.OK 6) 33)]),
  .ret (.bin .add (.OK 40) (.list [(.attr (.OK 6) 35),(.attr (.OK 6) 36),(.attr (.OK 6) 37),(.attr (.OK 6) 38),(.attr (.OK 6) 39)]))]⟩
noncomputable def rW:Fd:=⟨[41,21],[],
 [.ret (.call (.OK 42) [(.call (.OK 43) [(.l5 (.OK 41) 44 [(.OK 21)])])])]⟩
noncomputable def oU:Fd:=⟨[14],[],
 [.ite (.mN [(.not (.cmp (.lit (V.int 1)) [(.le,(.call (.OK 26) [(.OK 14)])),(.le,(.OK 45))])),(.not (.call (.OK 46) [(.comp false (.cmp (.OK 47) [(.iz,(.OK 48))]) [47] .val [(.OK 14)] none)]))])
  [.o8]
  [],
  .ite (.cmp (.OK 14) [(.iz,(.tuple [(.lit (V.str [46])),(.lit (V.str [46,46]))]))])
   [.o8]
   []]⟩
noncomputable def wq:Fd:=⟨[41,29,33],[],
 [.assign (.OK 34) (.list [(.OK 29),(.lit (V.int 0)),(.l5 (.OK 41) 10 []),(.l5 (.OK 41) 10 []),(.OK 33),(.lit (V.int 0)),(.lit (V.int 0)),(.lit (V.int 0)),(.lit (V.int 0)),(.lit (V.int 0))]),
  .ret (.l5 (.OK 41) 49 [(.call (.OK 50) [(.OK 34)])])]⟩
noncomputable def oZ:Fd:=⟨[41],[],
 [.assign (.OK 21) (.call (.OK 51) [(.OK 41),(.lit (V.int 0)),(.lit (V.int 0))]),
  .expr (.l5 (.OK 41) 52 [(.OK 53),(.OK 54),(.OK 21)]),
  .ret (.OK 21)]⟩
noncomputable def rZ:Fd:=⟨[41,21,14],[],
 [.ret (.l5 (.OK 41) 1 [(.attr (.call (.OK 55) [(.OK 41),(.OK 21)]) 31),(.OK 14)])]⟩
noncomputable def iF:Fd:=⟨[41,21],[],
 [.ret (.l5 (.OK 41) 56 [(.attr (.call (.OK 55) [(.OK 41),(.OK 21)]) 31)])]⟩
noncomputable def oV:Fd:=⟨[41,29,14],[],
 [.expr (.call (.OK 57) [(.OK 14)]),
  .ite (.cmp (.call (.OK 58) [(.OK 41),(.OK 29),(.OK 14)]) [(.M6,(.lit V.none))])
   [.o8]
   []]⟩
noncomputable def wz:Fd:=⟨[41,29,14,33],[(V.int 0)],
 [.expr (.call (.OK 59) [(.OK 41),(.OK 29),(.OK 14)]),
  .assign (.OK 21) (.call (.OK 51) [(.OK 41),(.OK 29),(.OK 33)]),
  .expr (.l5 (.OK 41) 52 [(.attr (.call (.OK 55) [(.OK 41),(.OK 29)]) 31),(.OK 14),(.OK 21)]),
  .ret (.OK 21)]⟩
noncomputable def wt:Fd:=⟨[41,29,21],[],
 [.assign (.OK 31) (.attr (.call (.OK 55) [(.OK 41),(.OK 29)]) 31),
  .F2 [14] .val [(.l5 (.OK 41) 56 [(.OK 31)])]
   [.ite (.cmp (.l5 (.OK 41) 1 [(.OK 31),(.OK 14)]) [(.eq,(.OK 21))])
    [.ret (.OK 14)]
    []],
  .o8]⟩
noncomputable def wm:Fd:=⟨[41,21],[],
 [.F7 [(.B4 56),(.OK 29)] [(.list []),(.attr (.call (.OK 55) [(.OK 41),(.OK 21)]) 29)],
  .y6 (.cmp (.OK 29) [(.ne,(.lit (V.int 0)))])
   [.K4 56 (.call (.OK 60) [(.OK 41),(.OK 29),(.OK 21)]),
    .F7 [(.OK 21),(.OK 29)] [(.OK 29),(.attr (.call (.OK 55) [(.OK 41),(.OK 29)]) 29)]],
  .ret (.l5 (.lit (V.str [47])) 5 [(.OK 56)])]⟩
noncomputable def lI:Fd:=⟨[6,61,62,63,64],[(V.int 1),(V.int 0)],
 []⟩
noncomputable def dC:Fd:=⟨[6,65,66,67,68,69],[V.tup [],(V.int 0),(V.int 0),(V.bool false)],
 []⟩
noncomputable def Y2:Fd:=⟨[6,16],[],
 [.ite (.cmp (.attr (.OK 6) 66) [(.ne,(.tuple []))])
  [.ret (.cmp (.lit (V.int 0)) [(.le,(.OK 16)),(.lt,(.call (.OK 26) [(.attr (.OK 6) 66)]))])]
  [],
  .ret (.R5 [(.cmp (.attr (.OK 6) 67) [(.le,(.OK 16)),(.le,(.attr (.OK 6) 68))]),(.mN [(.not (.attr (.OK 6) 69)),(.cmp (.bin .band (.OK 16) (.bin .sub (.OK 16) (.lit (V.int 1)))) [(.eq,(.lit (V.int 0)))])])])]⟩
noncomputable def lA:Fd:=⟨[],[],
 [.assign (.OK 70) (.tuple [(.lit (V.str [111,102,102])),(.lit (V.str [111,110]))]),
  .ret (.dict [((.lit (V.str [99,111,112,105,101,115])),(.call (.OK 71) [(.lit (V.int 1)),(.tuple []),(.lit (V.int 1)),(.lit (V.int 3))])),((.lit (V.str [100,101,100,117,112])),(.call (.OK 71) [(.lit (V.int 0)),(.OK 70)])),((.lit (V.str [112,97,99,107,101,100])),(.call (.OK 71) [(.OK 72),(.tuple [(.lit (V.str [111,102,102])),(.lit (V.str [122,108,101])),(.lit (V.str [108,122,106,98])),(.lit (V.str [108,122,52]))])])),((.lit (V.str [114,101,97,100,111,110,108,121])),(.call (.OK 71) [(.lit (V.int 0)),(.OK 70)])),((.lit (V.str [114,101,99,111,114,100])),(.call (.OK 71) [(.lit (V.int 32)),(.tuple []),(.lit (V.int 8)),(.lit (V.int 4096)),(.lit (V.bool true))])),((.lit (V.str [115,110,97,112,100,105,114])),(.call (.OK 71) [(.lit (V.int 0)),(.tuple [(.lit (V.str [104,105,100,100,101,110])),(.lit (V.str [118,105,115,105,98,108,101]))])])),((.lit (V.str [115,117,109,109,101,100])),(.call (.OK 71) [(.OK 73),(.tuple [(.lit (V.str [111,102,102])),(.lit (V.str [102,108,101,116,99,104,101,114,50])),(.lit (V.str [102,108,101,116,99,104,101,114,52])),(.lit (V.str [109,105,120]))])])),((.lit (V.str [115,121,110,99])),(.call (.OK 71) [(.lit (V.int 0)),(.tuple [(.lit (V.str [115,116,97,110,100,97,114,100])),(.lit (V.str [97,108,119,97,121,115])),(.lit (V.str [100,105,115,97,98,108,101,100]))])]))])]⟩
noncomputable def gG:Fd:=⟨[14],[],
 [.ite (.mN [(.not (.cmp (.lit (V.int 3)) [(.le,(.call (.OK 26) [(.OK 14)])),(.le,(.OK 74))])),(.not (.call (.OK 46) [(.comp false (.cmp (.OK 47) [(.iz,(.OK 75))]) [47] .val [(.OK 14)] none)]))])
  [.ret (.lit (V.bool false))]
  [],
  .ret (.cmp (.OK 76) [(.iz,(.slice (.OK 14) (some (.lit (V.int 1))) (some (.bin .sub (.call (.OK 26) [(.OK 14)]) (.lit (V.int 1))))))])]⟩
noncomputable def rY:Fd:=⟨[14],[],
 [.assign (.OK 77) (.call (.OK 78) []),
  .ite (.cmp (.OK 14) [(.iz,(.OK 77))])
   [.ret (.sub (.OK 77) (.OK 14))]
   [],
  .ite (.call (.OK 79) [(.OK 14)])
   [.ret (.call (.OK 71) [(.lit V.none),(.tuple []),(.lit (V.int 0)),(.OK 80)])]
   [],
  .raise (.bin .add (.lit (V.str [110,111,32,115,117,99,104,32,112,114,111,112,101,114,116,121,58,32])) (.OK 14))]⟩
noncomputable def lH:Fd:=⟨[14,81],[],
 [.assign (.OK 82) (.call (.OK 83) [(.OK 14)]),
  .ite (.cmp (.attr (.OK 82) 66) [(.ne,(.tuple []))])
   [.ite (.cmp (.OK 81) [(.R8,(.attr (.OK 82) 66))])
    [.raise (.bin .add (.lit (V.str [110,111,32,118,97,108,117,101,32,111,102,32])) (.OK 14))]
    [],
    .ret (.l5 (.attr (.OK 82) 66) 4 [(.OK 81)])]
   [],
  .ite (.mN [(.not (.call (.OK 84) [(.OK 81),(.OK 85)])),(.call (.OK 84) [(.OK 81),(.OK 86)]),(.not (.l5 (.OK 82) 87 [(.OK 81)]))])
   [.raise (.bin .add (.lit (V.str [110,111,32,118,97,108,117,101,32,111,102,32])) (.OK 14))]
   [],
  .ret (.OK 81)]⟩
noncomputable def oW:Fd:=⟨[14,16],[],
 [.assign (.OK 82) (.call (.OK 83) [(.OK 14)]),
  .ite (.cmp (.OK 16) [(.is,(.lit V.none))])
   [.ret (.lit V.none)]
   [],
  .ite (.not (.l5 (.OK 82) 87 [(.OK 16)]))
   [.o8]
   [],
  .ret (.ite (.cmp (.attr (.OK 82) 66) [(.ne,(.tuple []))]) (.sub (.attr (.OK 82) 66) (.OK 16)) (.OK 16))]⟩
noncomputable def Ai:Fd:=⟨[41,32,14],[],
 [.ite (.cmp (.l5 (.OK 41) 1 [(.OK 32),(.OK 14)]) [(.is,(.lit V.none))])
  [.ret (.lit (V.bool false))]
  [],
  .expr (.l5 (.OK 41) 88 [(.OK 32),(.OK 14)]),
  .ret (.lit (V.bool true))]⟩
noncomputable def K7:Fd:=⟨[41,21,14,81],[],
 [.assign (.OK 16) (.call (.OK 89) [(.OK 14),(.OK 81)]),
  .assign (.OK 32) (.attr (.call (.OK 55) [(.OK 41),(.OK 21)]) 32),
  .expr (.l5 (.OK 41) 52 [(.OK 32),(.OK 14),(.OK 16)]),
  .expr (.call (.OK 90) [(.OK 41),(.OK 32),(.bin .add (.OK 14) (.OK 91))])]⟩
noncomputable def G6:Fd:=⟨[41,21,14,92],[(V.bool false)],
 [.expr (.call (.OK 83) [(.OK 14)]),
  .assign (.OK 32) (.attr (.call (.OK 55) [(.OK 41),(.OK 21)]) 32),
  .expr (.call (.OK 90) [(.OK 41),(.OK 32),(.OK 14)]),
  .ite (.OK 92)
   [.expr (.call (.OK 90) [(.OK 41),(.OK 32),(.bin .add (.OK 14) (.OK 91))])]
   [.ite (.cmp (.l5 (.OK 41) 1 [(.OK 32),(.bin .add (.OK 14) (.OK 93))]) [(.M6,(.lit V.none))])
    [.expr (.l5 (.OK 41) 52 [(.OK 32),(.bin .add (.OK 14) (.OK 91)),(.lit (V.int 1))])]
    []]]⟩
noncomputable def K6:Fd:=⟨[41,21,14,81],[],
 [.assign (.OK 16) (.call (.OK 89) [(.OK 14),(.OK 81)]),
  .expr (.l5 (.OK 41) 52 [(.attr (.call (.OK 55) [(.OK 41),(.OK 21)]) 32),(.bin .add (.OK 14) (.OK 93)),(.OK 16)])]⟩
noncomputable def A5:Fd:=⟨[41,21,14],[],
 [.expr (.call (.OK 83) [(.OK 14)]),
  .assign (.OK 32) (.attr (.call (.OK 55) [(.OK 41),(.OK 21)]) 32),
  .expr (.call (.OK 90) [(.OK 41),(.OK 32),(.bin .add (.OK 14) (.OK 91))]),
  .ret (.call (.OK 90) [(.OK 41),(.OK 32),(.bin .add (.OK 14) (.OK 93))])]⟩
noncomputable def F3:Fd:=⟨[41,21,14],[],
 [.assign (.OK 32) (.attr (.call (.OK 55) [(.OK 41),(.OK 21)]) 32),
  .assign (.OK 94) (.l5 (.OK 41) 1 [(.OK 32),(.OK 14)]),
  .ite (.mN [(.cmp (.OK 94) [(.M6,(.lit V.none))]),(.cmp (.l5 (.OK 41) 1 [(.OK 32),(.bin .add (.OK 14) (.OK 91))]) [(.M6,(.lit V.none))])])
   [.ret (.OK 94)]
   [],
  .ret (.l5 (.OK 41) 1 [(.OK 32),(.bin .add (.OK 14) (.OK 93))])]⟩
noncomputable def A4:Fd:=⟨[41,21,95],[],
 [.F7 [(.OK 32),(.B4 94)] [(.attr (.call (.OK 55) [(.OK 41),(.OK 21)]) 32),(.list [])],
  .F2 [14] .val [(.l5 (.OK 41) 56 [(.OK 32)])]
   [.assign (.OK 96) (.slice (.OK 14) none (some (.bin .sub (.call (.OK 26) [(.OK 14)]) (.call (.OK 26) [(.OK 95)])))),
    .ite (.R5 [(.cmp (.OK 14) [(.eq,(.bin .add (.OK 96) (.OK 95)))]),(.cmp (.lit (V.str [36])) [(.R8,(.OK 96))])])
     [.F1 94 (.tuple [(.OK 96),(.call (.OK 97) [(.OK 96),(.l5 (.OK 41) 1 [(.OK 32),(.OK 14)])])])]
     []],
  .ret (.OK 94)]⟩
noncomputable def Y8:Fd:=⟨[41,21],[],
 [.ret (.call (.OK 98) [(.OK 41),(.OK 21),(.lit (V.str []))])]⟩
noncomputable def O9:Fd:=⟨[41,21],[],
 [.ret (.call (.OK 98) [(.OK 41),(.OK 21),(.OK 93)])]⟩
noncomputable def dg:Fd:=⟨[41,21,14],[],
 [.y6 (.R5 [(.cmp (.OK 21) [(.ne,(.lit (V.int 0)))]),(.cmp (.call (.OK 99) [(.OK 41),(.OK 21),(.OK 14)]) [(.is,(.lit V.none))])])
  [.assign (.OK 21) (.attr (.call (.OK 55) [(.OK 41),(.OK 21)]) 29)],
  .ret (.OK 21)]⟩
noncomputable def E0:Fd:=⟨[41,21,14],[],
 [.assign (.OK 82) (.call (.OK 83) [(.OK 14)]),
  .assign (.OK 100) (.call (.OK 101) [(.OK 41),(.OK 21),(.OK 14)]),
  .ite (.cmp (.OK 100) [(.eq,(.lit (V.int 0)))])
   [.ret (.tuple [(.call (.OK 97) [(.OK 14),(.attr (.OK 82) 65)]),(.OK 102)])]
   [],
  .ret (.tuple [(.call (.OK 97) [(.OK 14),(.call (.OK 99) [(.OK 41),(.OK 100),(.OK 14)])]),(.call (.OK 103) [(.OK 41),(.OK 100)])])]⟩
noncomputable def di:Fd:=⟨[41,21],[],
 [.assign (.B4 94) (.call (.OK 78) []),
  .y6 (.cmp (.OK 21) [(.ne,(.lit (V.int 0)))])
   [.F2 [95] .val [(.tuple [(.lit (V.str [])),(.OK 93)])]
    [.J0 94 (.call (.OK 104) [(.call (.OK 98) [(.OK 41),(.OK 21),(.OK 95)])])],
    .assign (.OK 21) (.attr (.call (.OK 55) [(.OK 41),(.OK 21)]) 29)],
  .ret (.call (.OK 18) [(.OK 94)])]⟩
noncomputable def dj:Fd:=⟨[41,21],[],
 [.assign (.OK 15) (.comp false (.bin .add (.tuple [(.OK 14)]) (.call (.OK 105) [(.OK 41),(.OK 21),(.OK 14)])) [14] .val [(.call (.OK 106) [(.OK 41),(.OK 21)])] none),
  .ret (.comp false (.OK 34) [34] .val [(.OK 15)] (some (.cmp (.sub (.OK 34) (.lit (V.int 1))) [(.M6,(.lit V.none))])))]⟩
noncomputable def O8:Fd:=⟨[41,21,14],[],
 [.expr (.call (.OK 83) [(.OK 14)]),
  .F7 [(.B4 94),(.B4 107)] [(.list []),(.comp false (.call (.OK 58) [(.OK 41),(.OK 21),(.OK 108)]) [108] .val [(.call (.OK 109) [(.OK 41),(.OK 21)])] none)],
  .y6 (.cmp (.OK 107) [(.ne,(.list []))])
   [.fT 110 107,
    .ite (.cmp (.call (.OK 99) [(.OK 41),(.OK 110),(.OK 14)]) [(.is,(.lit V.none))])
     [.F1 94 (.OK 110),
      .assign (.B4 107) (.bin .add (.comp false (.call (.OK 58) [(.OK 41),(.OK 110),(.OK 108)]) [108] .val [(.call (.OK 109) [(.OK 41),(.OK 110)])] none) (.OK 107))]
     []],
  .ret (.OK 94)]⟩
noncomputable def ao:Fd:=⟨[41,21],[],
 [.assign (.B4 23) (.comp false (.call (.OK 89) [(.OK 14),(.sub (.call (.OK 105) [(.OK 41),(.OK 21),(.OK 14)]) (.lit (V.int 0)))]) [14] .val [(.tuple [(.lit (V.str [112,97,99,107,101,100])),(.lit (V.str [115,117,109,109,101,100])),(.lit (V.str [99,111,112,105,101,115])),(.lit (V.str [100,101,100,117,112]))])] none),
  .ite (.cmp (.sub (.OK 23) (.lit (V.int 3))) [(.eq,(.lit (V.int 1)))])
   [.assign (.Y6 23 (.lit (V.int 1))) (.OK 111)]
   [],
  .ret (.call (.OK 112) [(.sub (.OK 23) (.lit (V.int 0))),(.sub (.OK 23) (.lit (V.int 1))),(.sub (.OK 23) (.lit (V.int 2))),(.sub (.OK 23) (.lit (V.int 3)))])]⟩
noncomputable def iE:Fd:=⟨[14],[],
 [.assign (.B4 113) (.dict [((.lit (V.str [112,97,99,107,101,100])),(.list [(.lit (V.str [111,102,102])),(.lit (V.str [122,108,101])),(.lit (V.str [108,122,106,98])),(.lit (V.str [108,122,52]))])),((.lit (V.str [115,117,109,109,101,100])),(.list [(.lit (V.str [111,102,102])),(.lit (V.str [102,108,101,116,99,104,101,114,50])),(.lit (V.str [102,108,101,116,99,104,101,114,52])),(.lit (V.str [109,105,120]))])),((.lit (V.str [114,101,97,100,111,110,108,121])),(.list [(.lit (V.str [111,102,102])),(.lit (V.str [111,110]))])),((.lit (V.str [100,101,100,117,112])),(.list [(.lit (V.str [111,102,102])),(.lit (V.str [111,110]))]))]),
  .N0 [(.Y6 113 (.lit (V.str [99,111,112,105,101,115]))),(.Y6 113 (.lit (V.str [114,101,99,111,114,100])))] [(.list [(.lit (V.int 1)),(.lit (V.int 2)),(.lit (V.int 3))]),(.comp false (.bin .pow (.lit (V.int 2)) (.OK 114)) [114] .range [(.lit (V.int 3)),(.lit (V.int 13))] none)],
  .ret (.l5 (.OK 113) 1 [(.OK 14),(.list [])])]⟩
noncomputable def iD:Fd:=⟨[14],[],
 [.ret (.l5 (.dict [((.lit (V.str [112,97,99,107,101,100])),(.lit (V.str [111,102,102]))),((.lit (V.str [115,117,109,109,101,100])),(.lit (V.str [102,108,101,116,99,104,101,114,52]))),((.lit (V.str [114,101,97,100,111,110,108,121])),(.lit (V.str [111,102,102]))),((.lit (V.str [100,101,100,117,112])),(.lit (V.str [111,102,102]))),((.lit (V.str [99,111,112,105,101,115])),(.lit (V.int 1))),((.lit (V.str [114,101,99,111,114,100])),(.lit (V.int 32)))]) 1 [(.OK 14)])]⟩
noncomputable def iC:Fd:=⟨[14,81],[],
 [.ite (.cmp (.OK 14) [(.iz,(.tuple [(.lit (V.str [110,111,110,101])),(.lit (V.str [58,97,98]))]))])
  [.ret (.bin .add (.lit (V.str [110,111,32,115,117,99,104,32,112,114,111,112,101,114,116,121,58,32])) (.OK 14))]
  [],
  .ite (.cmp (.OK 14) [(.eq,(.lit (V.str [97,58,98])))])
   [.assign (.OK 87) (.R5 [(.call (.OK 84) [(.OK 81),(.OK 85)]),(.not (.call (.OK 84) [(.OK 81),(.OK 86)])),(.cmp (.lit (V.int 0)) [(.le,(.OK 81)),(.lt,(.bin .pow (.lit (V.int 2)) (.lit (V.int 32))))])])]
   [.assign (.OK 87) (.R5 [(.not (.call (.OK 84) [(.OK 81),(.OK 86)])),(.cmp (.OK 81) [(.iz,(.call (.OK 115) [(.OK 14)]))])])],
  .ret (.ite (.OK 87) (.lit (V.str [])) (.bin .add (.lit (V.str [110,111,32,118,97,108,117,101,32,111,102,32])) (.OK 14)))]⟩
noncomputable def A8:Fd:=⟨[34,14],[],
 [.ite (.cmp (.OK 14) [(.iz,(.sub (.OK 34) (.lit (V.str [111,119,110]))))])
  [.ret (.sub (.sub (.OK 34) (.lit (V.str [111,119,110]))) (.OK 14))]
  [],
  .ret (.ite (.cmp (.OK 14) [(.R8,(.sub (.OK 34) (.lit (V.str [110,111]))))]) (.l5 (.sub (.OK 34) (.lit (V.str [103,111,116]))) 1 [(.OK 14)]) (.lit V.none))]⟩
noncomputable def F4:Fd:=⟨[15,21,14],[],
 [.y6 (.cmp (.OK 21) [(.ge,(.lit (V.int 0)))])
  [.assign (.OK 94) (.call (.OK 116) [(.sub (.OK 15) (.OK 21)),(.OK 14)]),
   .ite (.cmp (.OK 94) [(.M6,(.lit V.none))])
    [.ret (.tuple [(.OK 94),(.sub (.sub (.OK 15) (.OK 21)) (.lit (V.str [112,97,116,104])))])]
    [],
   .assign (.OK 21) (.sub (.sub (.OK 15) (.OK 21)) (.lit (V.str [112,97,114,101,110,116])))],
  .ret (.tuple [(.call (.OK 117) [(.OK 14)]),(.lit (V.str [100,101,102,97,117,108,116]))])]⟩
noncomputable def J1:Fd:=⟨[15,21,14],[],
 [.assign (.B4 94) (.list []),
  .F2 [118] .range [(.bin .add (.OK 21) (.lit (V.int 1))),(.call (.OK 26) [(.OK 15)])]
   [.assign (.OK 119) (.OK 118),
    .y6 (.R5 [(.cmp (.OK 119) [(.ne,(.OK 21))]),(.cmp (.OK 119) [(.ge,(.lit (V.int 0)))]),(.cmp (.call (.OK 116) [(.sub (.OK 15) (.OK 119)),(.OK 14)]) [(.is,(.lit V.none))])])
     [.assign (.OK 119) (.sub (.sub (.OK 15) (.OK 119)) (.lit (V.str [112,97,114,101,110,116])))],
    .ite (.cmp (.OK 119) [(.eq,(.OK 21))])
     [.F1 94 (.sub (.sub (.OK 15) (.OK 118)) (.lit (V.str [111,98,106,101,99,116])))]
     []],
  .ret (.OK 94)]⟩
noncomputable def f9:Fd:=⟨[41,15,120,21,14,81],[],
 [.N0 [(.OK 34),(.OK 28)] [(.sub (.OK 15) (.OK 21)),(.sub (.sub (.OK 15) (.OK 21)) (.lit (V.str [111,98,106,101,99,116])))],
  .assign (.OK 121) (.call (.OK 122) [(.OK 14),(.ite (.cmp (.OK 120) [(.iz,(.tuple [(.lit (V.int 0)),(.lit (V.int 1)),(.lit (V.int 4))]))]) (.OK 81) (.lit (V.int 1)))]),
  .assign (.OK 121) (.ite (.mN [(.cmp (.OK 120) [(.iz,(.tuple [(.lit (V.int 0)),(.lit (V.int 1)),(.lit (V.int 4))]))]),(.cmp (.slice (.OK 121) none (some (.lit (V.int 7)))) [(.eq,(.lit (V.str [110,111,32,115,117,99,104])))])]) (.OK 121) (.lit (V.str []))),
  .ite (.cmp (.OK 120) [(.lt,(.lit (V.int 2)))])
   [.assign (.OK 123) (.A3 (.call (.OK 124) [(.OK 41),(.OK 28),(.OK 14),(.OK 81)]))]
   [.ite (.cmp (.OK 120) [(.eq,(.lit (V.int 2)))])
    [.assign (.OK 123) (.A3 (.call (.OK 125) [(.OK 41),(.OK 28),(.OK 14)]))]
    [.ite (.cmp (.OK 120) [(.eq,(.lit (V.int 3)))])
     [.assign (.OK 123) (.A3 (.call (.OK 125) [(.OK 41),(.OK 28),(.OK 14),(.lit (V.bool true))]))]
     [.ite (.cmp (.OK 120) [(.eq,(.lit (V.int 4)))])
      [.assign (.OK 123) (.A3 (.call (.OK 126) [(.OK 41),(.OK 28),(.OK 14),(.OK 81)]))]
      [.assign (.OK 123) (.A3 (.call (.OK 127) [(.OK 41),(.OK 28),(.OK 14)]))]]]],
  .ite (.cmp (.OK 123) [(.ne,(.tuple [(.OK 121),(.ite (.R5 [(.cmp (.OK 120) [(.eq,(.lit (V.int 5)))]),(.cmp (.OK 121) [(.eq,(.lit (V.str [])))])]) (.cmp (.OK 14) [(.iz,(.sub (.OK 34) (.lit (V.str [103,111,116]))))]) (.lit V.none))]))])
   [.ret (.lit (V.bool false))]
   [],
  .ite (.cmp (.OK 121) [(.eq,(.lit (V.str [])))])
   [.assign (.item (.OK 34) (.lit (V.str [110,111]))) (.comp true (.OK 118) [118] .val [(.sub (.OK 34) (.lit (V.str [110,111])))] (some (.mN [(.cmp (.OK 118) [(.ne,(.OK 14))]),(.cmp (.OK 120) [(.eq,(.lit (V.int 4)))])]))),
    .ite (.cmp (.OK 120) [(.lt,(.lit (V.int 2)))])
     [.assign (.item (.sub (.OK 34) (.lit (V.str [111,119,110]))) (.OK 14)) (.OK 81)]
     [.ite (.cmp (.OK 120) [(.lt,(.lit (V.int 4)))])
      [.expr (.l5 (.sub (.OK 34) (.lit (V.str [111,119,110]))) 2 [(.OK 14),(.lit V.none)])]
      []],
    .ite (.R5 [(.cmp (.OK 120) [(.eq,(.lit (V.int 2)))]),(.cmp (.OK 14) [(.iz,(.sub (.OK 34) (.lit (V.str [103,111,116]))))])])
     [.expr (.l5 (.sub (.OK 34) (.lit (V.str [110,111]))) 0 [(.OK 14)])]
     [],
    .ite (.cmp (.OK 120) [(.eq,(.lit (V.int 4)))])
     [.assign (.item (.sub (.OK 34) (.lit (V.str [103,111,116]))) (.OK 14)) (.OK 81)]
     [],
    .ite (.cmp (.OK 120) [(.eq,(.lit (V.int 5)))])
     [.expr (.l5 (.sub (.OK 34) (.lit (V.str [103,111,116]))) 2 [(.OK 14),(.lit V.none)])]
     []]
   [],
  .ret (.lit (V.bool true))]⟩
noncomputable def m6:Fd:=⟨[41,15,21,14],[],
 [.assign (.OK 28) (.sub (.sub (.OK 15) (.OK 21)) (.lit (V.str [111,98,106,101,99,116]))),
  .ite (.mN [(.cmp (.call (.OK 128) [(.OK 41),(.OK 28)]) [(.ne,(.l4 (.sub (.sub (.OK 15) (.OK 21)) (.lit (V.str [111,119,110])))))]),(.cmp (.call (.OK 129) [(.OK 41),(.OK 28)]) [(.ne,(.l4 (.sub (.sub (.OK 15) (.OK 21)) (.lit (V.str [103,111,116])))))])])
   [.ret (.lit (V.bool false))]
   [],
  .ite (.cmp (.OK 14) [(.iz,(.tuple [(.lit (V.str [110,111,110,101])),(.lit (V.str [58,97,98]))]))])
   [.ret (.cmp (.A3 (.call (.OK 105) [(.OK 41),(.OK 28),(.OK 14)])) [(.eq,(.tuple [(.bin .add (.lit (V.str [110,111,32,115,117,99,104,32,112,114,111,112,101,114,116,121,58,32])) (.OK 14)),(.lit V.none)]))])]
   [],
  .F2 [118] .range [(.call (.OK 26) [(.OK 15)])]
   [.ite (.cmp (.call (.OK 105) [(.OK 41),(.sub (.sub (.OK 15) (.OK 118)) (.lit (V.str [111,98,106,101,99,116]))),(.OK 14)]) [(.ne,(.call (.OK 130) [(.OK 15),(.OK 118),(.OK 14)]))])
    [.ret (.lit (V.bool false))]
    []],
  .ret (.cmp (.call (.OK 131) [(.OK 41),(.OK 28),(.OK 14)]) [(.eq,(.call (.OK 132) [(.OK 15),(.OK 21),(.OK 14)]))])]⟩
noncomputable def U1:Fd:=⟨[15,21],[],
 [.assign (.OK 133) (.comp false (.sub (.call (.OK 130) [(.OK 15),(.OK 21),(.OK 14)]) (.lit (V.int 0))) [14] .val [(.tuple [(.lit (V.str [112,97,99,107,101,100])),(.lit (V.str [115,117,109,109,101,100])),(.lit (V.str [99,111,112,105,101,115])),(.lit (V.str [100,101,100,117,112]))])] none),
  .assign (.OK 62) (.ite (.cmp (.sub (.OK 133) (.lit (V.int 3))) [(.eq,(.lit (V.str [111,110])))]) (.lit (V.int 3)) (.l5 (.call (.OK 115) [(.lit (V.str [115,117,109,109,101,100]))]) 4 [(.sub (.OK 133) (.lit (V.int 1)))])),
  .ret (.list [(.l5 (.call (.OK 115) [(.lit (V.str [112,97,99,107,101,100]))]) 4 [(.sub (.OK 133) (.lit (V.int 0)))]),(.OK 62),(.sub (.OK 133) (.lit (V.int 2))),(.call (.OK 85) [(.cmp (.sub (.OK 133) (.lit (V.int 3))) [(.eq,(.lit (V.str [111,110])))])])])]⟩
noncomputable def M7:Fd:=⟨[15,21],[],
 [.assign (.B4 94) (.list []),
  .F2 [14] .val [(.list [(.lit (V.str [97,58,98])),(.lit (V.str [99,111,112,105,101,115])),(.lit (V.str [100,101,100,117,112])),(.lit (V.str [112,97,99,107,101,100])),(.lit (V.str [114,101,97,100,111,110,108,121])),(.lit (V.str [114,101,99,111,114,100])),(.lit (V.str [115,110,97,112,100,105,114])),(.lit (V.str [115,117,109,109,101,100])),(.lit (V.str [115,121,110,99]))])]
   [.H4 [(.OK 81),(.OK 100)] (.call (.OK 130) [(.OK 15),(.OK 21),(.OK 14)]),
    .assign (.OK 134) (.l5 (.dict [((.lit (V.str [115,110,97,112,100,105,114])),(.lit (V.str [104,105,100,100,101,110]))),((.lit (V.str [115,121,110,99])),(.lit (V.str [115,116,97,110,100,97,114,100])))]) 1 [(.OK 14),(.OK 81)]),
    .ite (.cmp (.OK 134) [(.M6,(.lit V.none))])
     [.F1 94 (.tuple [(.OK 14),(.OK 134),(.OK 100)])]
     []],
  .ret (.OK 94)]⟩
noncomputable def I7:Fd:=⟨[135],[],
 [.assign (.OK 135) (.slice (.OK 135) none (some (.lit (V.int 63)))),
  .assign (.OK 41) (.call (.OK 136) []),
  .assign (.OK 15) (.Y5 [(.K3 [((.lit (V.str [112,97,116,104])),(.lit (V.str []))),((.lit (V.str [112,97,114,101,110,116])),(.neg (.lit (V.int 1)))),((.lit (V.str [111,98,106,101,99,116])),(.call (.OK 137) [(.OK 41)]))])]),
  .F2 [14,29] .val [(.list [(.tuple [(.lit (V.str [97])),(.lit (V.int 0))]),(.tuple [(.lit (V.str [98])),(.lit (V.int 1))]),(.tuple [(.lit (V.str [99])),(.lit (V.int 2))]),(.tuple [(.lit (V.str [100])),(.lit (V.int 1))]),(.tuple [(.lit (V.str [101])),(.lit (V.int 0))])])]
   [.assign (.OK 138) (.bin .add (.bin .add (.sub (.sub (.OK 15) (.OK 29)) (.lit (V.str [112,97,116,104]))) (.ite (.cmp (.OK 29) [(.gt,(.lit (V.int 0)))]) (.lit (V.str [47])) (.lit (V.str [])))) (.OK 14)),
    .expr (.l5 (.OK 15) 0 [(.K3 [((.lit (V.str [112,97,116,104])),(.OK 138)),((.lit (V.str [112,97,114,101,110,116])),(.OK 29)),((.lit (V.str [111,98,106,101,99,116])),(.call (.OK 139) [(.OK 41),(.sub (.sub (.OK 15) (.OK 29)) (.lit (V.str [111,98,106,101,99,116]))),(.OK 14)]))])])],
  .F2 [34] .val [(.OK 15)]
   [.expr (.l5 (.OK 34) 3 [.dict [((.lit (V.str [111,119,110])),(.K3 [])),((.lit (V.str [103,111,116])),(.K3 [])),((.lit (V.str [110,111])),(.Y5 []))]])],
  .assign (.OK 56) (.list [(.lit (V.str [112,97,99,107,101,100])),(.lit (V.str [99,111,112,105,101,115])),(.lit (V.str [114,101,99,111,114,100])),(.lit (V.str [114,101,97,100,111,110,108,121])),(.lit (V.str [100,101,100,117,112])),(.lit (V.str [115,117,109,109,101,100])),(.lit (V.str [97,58,98])),(.lit (V.str [110,111,110,101])),(.lit (V.str [58,97,98]))]),
  .assign (.OK 140) (.list [(.lit (V.str [111,102,102])),(.lit (V.str [111,110])),(.lit (V.str [122,108,101])),(.lit (V.str [108,122,52])),(.lit (V.str [109,105,120])),(.lit (V.str [103,122,105,112])),(.lit (V.int 0)),(.lit (V.int 1)),(.lit (V.int 2)),(.lit (V.int 3)),(.lit (V.int 4)),(.lit (V.int 8)),(.lit (V.int 24)),(.lit (V.int 4096)),(.lit (V.int 8192)),(.bin .sub (.bin .pow (.lit (V.int 2)) (.lit (V.int 32))) (.lit (V.int 1))),(.bin .pow (.lit (V.int 2)) (.lit (V.int 32))),(.lit (V.bool true))]),
  .F2 [141,142] .enum [(.ite (.cmp (.OK 135) [(.ne,(.list []))]) (.slice (.OK 135) none (some (.lit (V.int 10)))) (.list [(.lit (V.int 100)),(.lit (V.int 7)),(.lit (V.int 1000)),(.lit (V.int 12))]))]
   [.F7 [(.OK 120),(.OK 21),(.OK 14)] [(.bin .mod (.OK 142) (.lit (V.int 6))),(.bin .mod (.bin .fdiv (.OK 142) (.lit (V.int 6))) (.lit (V.int 6))),(.sub (.OK 56) (.bin .mod (.bin .add (.bin .fdiv (.OK 142) (.lit (V.int 36))) (.OK 141)) (.lit (V.int 9))))],
    .assign (.OK 143) (.call (.OK 115) [(.OK 14)]),
    .assign (.OK 81) (.ite (.R5 [(.cmp (.OK 143) [(.ne,(.list []))]),(.cmp (.bin .mod (.bin .fdiv (.OK 142) (.lit (V.int 324))) (.lit (V.int 3))) [(.gt,(.lit (V.int 0)))])]) (.sub (.OK 143) (.bin .mod (.bin .fdiv (.OK 142) (.lit (V.int 5832))) (.call (.OK 26) [(.OK 143)]))) (.sub (.OK 140) (.bin .mod (.bin .fdiv (.OK 142) (.lit (V.int 972))) (.lit (V.int 18))))),
    .ite (.not (.call (.OK 144) [(.OK 41),(.OK 15),(.OK 120),(.OK 21),(.OK 14),(.OK 81)]))
     [.ret (.lit (V.bool false))]
     []],
  .ite (.not (.call (.OK 145) [(.OK 41),(.OK 15),(.OK 21),(.OK 14)]))
   [.ret (.lit (V.bool false))]
   [],
  .assign (.OK 21) (.bin .mod (.call (.OK 19) [(.OK 135)]) (.lit (V.int 6))),
  .assign (.OK 133) (.call (.OK 146) [(.OK 41),(.sub (.sub (.OK 15) (.OK 21)) (.lit (V.str [111,98,106,101,99,116])))]),
  .ite (.cmp (.list [(.attr (.OK 133) 61),(.attr (.OK 133) 62),(.attr (.OK 133) 63),(.attr (.OK 133) 64)]) [(.ne,(.call (.OK 147) [(.OK 15),(.OK 21)]))])
   [.ret (.lit (V.bool false))]
   [],
  .ret (.cmp (.call (.OK 148) [(.OK 41),(.sub (.sub (.OK 15) (.OK 21)) (.lit (V.str [111,98,106,101,99,116])))]) [(.eq,(.call (.OK 149) [(.OK 15),(.OK 21)]))])]⟩
noncomputable def G5:List Fd:=[gK,aq,gJ,bq,gI,iG,o6,gH,S0,oY,oX,lz,lE,gL,iH,rW,oU,wq,oZ,rZ,iF,oV,wz,wt,wm,lI,dC,Y2,lA,gG,rY,lH,oW,Ai,K7,G6,K6,A5,F3,A4,Y8,O9,dg,E0,di,dj,O8,ao,iE,iD,iC,A8,F4,J1,f9,m6,U1,M7,I7]
noncomputable def Q9:List Cd:=[⟨(some 0),true,[(49,1),(44,2),(10,3),(15,4),(1,5),(52,6),(88,7),(56,8)],[]⟩,⟨(some 13),false,[(34,14)],[([29,30,31,32,33],true,(.slice (.OK 34) none (some (.lit (V.int 5))))),([35,36,37,38,39],true,(.slice (.OK 34) (some (.lit (V.int 5))) none))]⟩,⟨(some 25),false,[],[([61],false,(.OK 61)),([62],false,(.OK 62)),([63],false,(.OK 63)),([64],false,(.OK 64))]⟩,⟨(some 26),false,[(87,27)],[([65],false,(.OK 65)),([66],false,(.OK 66)),([67],false,(.OK 67)),([68],false,(.OK 68)),([69],false,(.OK 69))]⟩]
noncomputable def uc:List (Nat×V):=[(53,(V.int 1)),(136,.cls 0),(27,.fn 9),(24,.fn 10),(25,(V.int 8)),(50,.fn 11),(43,.fn 12),(54,(V.str [114,111,111,116])),(48,(V.str [97,98,99,100,101,102,103,104,105,106,107,108,109,110,111,112,113,114,115,116,117,118,119,120,121,122,48,49,50,51,52,53,54,55,56,57,45,95,46])),(45,(V.int 12)),(42,.cls 1),(55,.fn 15),(57,.fn 16),(51,.fn 17),(137,.fn 18),(58,.fn 19),(109,.fn 20),(59,.fn 21),(139,.fn 22),(60,.fn 23),(103,.fn 24),(72,(V.int 0)),(73,(V.int 2)),(111,(V.int 3)),(112,.cls 2),(93,(V.str [36,114,101,99,118,100])),(91,(V.str [36,105,110,104,101,114,105,116])),(102,(V.str [100,101,102,97,117,108,116])),(76,(V.str [58])),(74,(V.int 20)),(80,(V.int 4294967295)),(75,(V.str [97,98,99,100,101,102,103,104,105,106,107,108,109,110,111,112,113,114,115,116,117,118,119,120,121,122,48,49,50,51,52,53,54,55,56,57,45,95,46,58])),(71,.cls 3),(78,.fn 28),(79,.fn 29),(83,.fn 30),(89,.fn 31),(97,.fn 32),(90,.fn 33),(124,.fn 34),(125,.fn 35),(126,.fn 36),(127,.fn 37),(99,.fn 38),(98,.fn 39),(128,.fn 40),(129,.fn 41),(101,.fn 42),(105,.fn 43),(106,.fn 44),(148,.fn 45),(131,.fn 46),(146,.fn 47),(115,.fn 48),(117,.fn 49),(122,.fn 50),(116,.fn 51),(130,.fn 52),(132,.fn 53),(144,.fn 54),(145,.fn 55),(147,.fn 56),(149,.fn 57),(150,.fn 58),(26,.bi .len),(84,.bi .isinstance),(18,.bi .sorted),(46,.bi .all),(19,.bi .sum),(12,.bi .bytes),(104,.bi .dict),(85,.bi .int),(86,.bi .bool)]
noncomputable def univ:List Txt:=[[97],[97,58,98],[97,58,98,36,105,110,104,101,114,105,116],[97,58,98,36,114,101,99,118,100],[98],[99],[99,111,112,105,101,115],[99,111,112,105,101,115,36,105,110,104,101,114,105,116],[99,111,112,105,101,115,36,114,101,99,118,100],[100],[100,101,100,117,112],[100,101,100,117,112,36,105,110,104,101,114,105,116],[100,101,100,117,112,36,114,101,99,118,100],[101],[103,111,116],[108,97,115,116],[110,111],[110,111,116,101,115],[111,98,106,101,99,116],[111,119,110],[112,97,99,107,101,100],[112,97,99,107,101,100,36,105,110,104,101,114,105,116],[112,97,99,107,101,100,36,114,101,99,118,100],[112,97,114,101,110,116],[112,97,116,104],[114,101,97,100,111,110,108,121],[114,101,97,100,111,110,108,121,36,105,110,104,101,114,105,116],[114,101,97,100,111,110,108,121,36,114,101,99,118,100],[114,101,99,111,114,100],[114,101,99,111,114,100,36,105,110,104,101,114,105,116],[114,101,99,111,114,100,36,114,101,99,118,100],[114,111,111,116],[115,117,109,109,101,100],[115,117,109,109,101,100,36,105,110,104,101,114,105,116],[115,117,109,109,101,100,36,114,101,99,118,100],[122,97,112,115]]
noncomputable def names:List Txt:=[[97,112,112,101,110,100],[103,101,116],[112,111,112],[117,112,100,97,116,101],[105,110,100,101,120],[106,111,105,110],[115,101,108,102],[108,97,115,116],[110,111,116,101,115],[122,97,112,115],[110,101,119,95,122,97,112],[111,99,116,101,116,115],[98,121,116,101,115],[111,98,106,101,99,116,95,110,117,109,98,101,114],[110,97,109,101],[114,111,119,115],[110,117,109,98,101,114],[115,111,109,101],[115,111,114,116,101,100],[115,117,109],[111,99,116,101,116],[112,108,97,99,101],[115,105,122,101],[110,117,109,98,101,114,115],[111,99,116,101,116,115,95,111,102],[78,85,77,66,69,82],[108,101,110],[110,117,109,98,101,114,95,111,102],[97,116],[112,97,114,101,110,116],[104,101,97,100],[99,104,105,108,100,114,101,110],[112,114,111,112,115],[111,114,105,103,105,110],[114,111,119],[117,115,101,100],[98,101,108,111,119],[113,117,111,116,97],[114,101,115,101,114,118,101,100],[114,101,102,113,117,111,116,97],[111,98,106,101,99,116,115],[98,97,115,101],[68,105,114,73,110,102,111],[111,99,116,101,116,115,95,114,111,119],[110,111,116,101],[77,79,83,84,95,76,69,84,84,69,82,83,95,100,105,114,115],[97,108,108],[108,101,116,116,101,114],[76,69,84,84,69,82,83,95,100,105,114,115],[110,101,119,95,110,111,116,101],[114,111,119,95,111,99,116,101,116,115],[110,101,119,95,100,105,114],[112,117,116],[78,65,77,69,83],[82,79,79,84],[108,111,97,100,95,100,105,114],[110,97,109,101,115],[119,97,110,116,95,110,97,109,101],[99,104,105,108,100,95,111,102],[119,97,110,116,95,102,114,101,101],[110,97,109,101,95,105,110],[112,97,99,107,101,100],[115,117,109,109,101,100],[99,111,112,105,101,115],[100,101,100,117,112],[100,101,102,97,117,108,116],[99,104,111,105,99,101,115],[108,101,97,115,116],[109,111,115,116],[105,115,95,112,111,119,101,114],[115,119,105,116,99,104],[80,114,111,112,75,105,110,100],[80,76,65,73,78],[70,76,69,84,67,72,69,82,52],[77,79,83,84,95,76,69,84,84,69,82,83,95,112,114,111,112,115],[76,69,84,84,69,82,83,95,112,114,111,112,115],[85,83,69,82,95,83,73,71,78],[107,105,110,100,115],[112,114,111,112,95,107,105,110,100,115],[105,115,95,117,115,101,114,95,110,97,109,101],[77,79,83,84,95,85,83,69,82],[118,97,108,117,101],[107,105,110,100],[107,105,110,100,95,102,111,114],[105,115,105,110,115,116,97,110,99,101],[105,110,116],[98,111,111,108],[105,115,95,114,105,103,104,116],[116,97,107,101],[110,117,109,98,101,114,95,102,111,114],[102,111,114,103,101,116],[73,78,72,69,82,73,84],[105,115,95,98,97,99,107],[82,69,67,69,73,86,69,68],[102,111,117,110,100],[115,105,103,110],[98,97,114,101],[118,97,108,117,101,95,102,111,114],[118,97,108,117,101,115,95,98,101,104,105,110,100],[111,119,110,95,110,117,109,98,101,114],[115,111,117,114,99,101],[115,111,117,114,99,101,95,111,102],[68,69,70,65,85,76,84],[112,97,116,104,95,111,102],[100,105,99,116],[112,114,111,112,95,111,102],[110,97,109,101,115,95,102,111,114],[119,97,105,116,105,110,103],[99,104,105,108,100],[99,104,105,108,100,95,110,97,109,101,115],[104,101,114,101],[77,73,88],[82,117,108,101,115],[116,97,98,108,101],[112,111,119,101,114],[95,108,97,119,95,99,104,111,105,99,101,115],[95,108,97,119,95,111,119,110],[95,108,97,119,95,100,101,102,97,117,108,116],[111,110,101],[117,112],[119,104,97,116],[100,117,101],[95,108,97,119,95,114,101,102,117,115,97,108],[104,101,97,114,100],[115,101,116,95,112,114,111,112],[105,110,104,101,114,105,116],[115,101,116,95,114,101,99,101,105,118,101,100],[100,114,111,112,95,114,101,99,101,105,118,101,100],[108,111,99,97,108,95,112,114,111,112,115],[114,101,99,101,105,118,101,100,95,112,114,111,112,115],[95,108,97,119,95,99,111,117,110,116,115],[116,97,107,101,114,115],[95,108,97,119,95,116,97,107,101,114,115],[116,111,108,100],[111,116,104,101,114],[115,99,114,105,112,116],[77,101,109,66,97,115,101],[109,97,107,101,95,114,111,111,116],[112,97,116,104],[97,100,100,95,100,105,114],[118,97,108,117,101,115],[116,117,114,110],[120],[110,101,97,114],[95,108,97,119,95,99,97,108,108],[95,108,97,119,95,105,115,95,116,111,108,100],[114,117,108,101,115,95,111,102],[95,108,97,119,95,114,117,108,101,115],[97,108,108,95,112,114,111,112,115],[95,108,97,119,95,101,118,101,114,121],[108,97,119]]
noncomputable def pg:Pg:=⟨G5,Q9,uc,univ,names⟩
end Mine
end
section
open PySem PySem.W PyProof.Rows PySem.Calls
namespace Mine
noncomputable def i3 (s:Txt):Str:=⟨s.toArray⟩
theorem dH {a b:Txt} (h:i3 a=i3 b):a=b:=OY Array.toList (Str.mk.inj h)
noncomputable def solid:V->Bool
 |.snap _=>false
 |.Z9 _=>false
 |.g6 _=>false
 |.E2 _=>false
 |_=>true
theorem R2 {a b:Txt} (ha:t6 a=true) (hb:t6 b=true):t6 (a++b)=true:=by
 unfold t6 at *
 rw[List.all_append,ha,hb];rfl
def At (a:Addr) (h h':Heap):Prop:=∀o,h.get? a=some o->h'.get? a=some o
noncomputable def CY (ws:List Value) (n:Nat):Obj:={cls:=.type "list",data:=.seq ws.toArray n}
noncomputable def qy (ws:List Value) (n:Nat):Obj:={cls:=.type "tuple",data:=.seq ws.toArray n}
def R6 (h:Heap) (a:Addr) (ws:List Value):Prop:=∃n,h.get? a=some (CY ws n)
def mZ (h:Heap) (a:Addr) (ws:List Value):Prop:=∃n,h.get? a=some (qy ws n)
variable {h h':Heap}
section
variable {a:Addr} {ws:List Value}
theorem R6.list (l:R6 h a ws):h.IsList a ws.toArray:=l.elim λn e=>⟨_,e,rfl,n,rfl⟩
theorem mZ.tup (l:mZ h a ws):h.IsTuple a ws.toArray:=l.elim λn e=>⟨_,e,rfl,n,rfl⟩
theorem R6.there (l:R6 h a ws):∃o,h.get? a=some o:=l.elim λJ e=>⟨_,e⟩
theorem mZ.there (l:mZ h a ws):∃o,h.get? a=some o:=l.elim λJ e=>⟨_,e⟩
theorem R6.at (l:R6 h a ws) (k:At a h h'):R6 h' a ws:=l.elim λn e=>⟨n,k _ e⟩
theorem mZ.at (l:mZ h a ws) (k:At a h h'):mZ h' a ws:=l.elim λn e=>⟨n,k _ e⟩
theorem B7 {prog:Program} {w:World} {K:Type} [DecidableEq K] {knd:KeyKind prog w K} {kvs:List (K×Value)} (l:h.DictOf knd a kvs) (k:At a h h'):h'.DictOf knd a kvs:=match l with|⟨o,es,ep,e,r⟩=>⟨o,es,ep,k o e,r⟩
theorem l9 {prog:Program} {w:World} {K:Type} [DecidableEq K] {knd:KeyKind prog w K} {kvs:List (K×Value)} (l:h.DictOf knd a kvs):∃o,h.get? a=some o:=match l with|⟨o,_,_,e,_⟩=>⟨o,e⟩
theorem ji {f:Str->Option Value} (l:h.Ns a f) (k:At a h h'):h'.Ns a f:=match l with|⟨o,es,ep,e,r⟩=>⟨o,es,ep,k o e,r⟩
theorem D5 {v:Option Value} (l:h.IsCell a v) (k:At a h h'):h'.IsCell a v:=match l with|⟨o,e,r⟩=>⟨o,k o e,r⟩
end
noncomputable abbrev Kd:=Str->Option NameKind
structure i7 where
 prog:Program
 w:World
 fn:Nat->Option Addr
 cls:Nat->Option Addr
 bi:Bi->Value
 nm:Nat->Str
 univ:List Txt
 glob:List (Nat×V)
 exc:Addr
 why:Str
 K:Frag
 tabs:List Addr
 zA:Addr->Str
 lam:Kd->Option Addr
 A3:Addr
 Q0:Str
 S1:Str
 AF:List Str
 SF:List Str
 B:Heap
inductive bN (T:i7):V->Value->Prop
 |none:bN T .none .none
 |bool (b:Bool):bN T (.bool b) (.bool b)
 |int (i:Int) (t:Tok):bN T (.int i) (.int i t)
 |str (s:Txt) (t:Tok):t6 s=true->bN T (.str s) (.str (i3 s) t)
 |bytes (b:List Nat) (a:Array UInt8) (t:Tok):a.toList.map UInt8.toNat=b->bN T (.bytes b) (.bytes a t)
 |fn (k:Nat) (a:Addr):T.fn k=some a->bN T (.fn k) (.ref a)
 |cls (k:Nat) (a:Addr):T.cls k=some a->bN T (.cls k) (.ref a)
 |bi (b:Bi):bN T (.bi b) (T.bi b)
mutual
inductive VS (T:i7) (U:List Addr) (bad:Addr->Prop) (h:Heap):V->Value->Prop
 |G4 (v:V) (w:Value):bN T v w->VS T U bad h v w
 |loc (i:Nat) (a:Addr):U[i]? =some a->VS T U bad h (.loc i) (.ref a)
 |tup (xs:List V) (ws:List Value) (a:Addr):mZ h a ws->¬bad a->z1 T U bad h xs ws->VS T U bad h (.tup xs) (.ref a)
 |jo (v:V) (xs:List V) (ws:List Value) (a:Addr):E3 v=some xs->dA v=false->R6 h a ws->¬bad a->z1 T U bad h xs ws->VS T U bad h v (.ref a)
 |obj (c:Nat) (C:Addr) (at_:List (Nat×V)) (a dx:Addr) (kws:List (Str×Value)):T.cls c=some C->h.get? a=some ⟨.ref C,some dx,.plain,#[]⟩->¬bad a->h.DictOf (strKind T.prog T.w) dx kws->¬bad dx->
  kws.map Prod.fst=at_.map (λp=>T.nm p.1)->z1 T U bad h (at_.map Prod.snd) (kws.map Prod.snd)->VS T U bad h (.obj c at_) (.ref a)
 |mX (v:V) (kvs:List (Txt×V)) (a:Addr) (kws:List (Str×Value)):ents v=some kvs->dA v=false->h.DictOf (strKind T.prog T.w) a kws->(a == sysModules)=false->¬bad a->
  kws.map Prod.fst=kvs.map (λp=>i3 p.1)->z1 T U bad h (kvs.map Prod.snd) (kws.map Prod.snd)->VS T U bad h v (.ref a)
inductive z1 (T:i7) (U:List Addr) (bad:Addr->Prop) (h:Heap):List V->List Value->Prop
 |nil:z1 T U bad h [] []
 |cons (v:V) (w:Value) (vs:List V) (ws:List Value):solid v=true->VS T U bad h v w->z1 T U bad h vs ws->z1 T U bad h (v::vs) (w::ws)
end
inductive VR (T:i7) (U:List Addr) (bad f7:Addr->Prop) (h:Heap):V->Value->Prop
 |mk (v:V) (w:Value):VS T U bad h v w->VR T U bad f7 h v w
 |Gd (xs:List V) (ws:List Value) (a:Addr):R6 h a ws->f7 a->z1 T U bad h xs ws->VR T U bad f7 h (.snap xs) (.ref a)
 |snd (kvs:List (Txt×V)) (a:Addr) (kws:List (Str×Value)):h.DictOf (strKind T.prog T.w) a kws->(a == sysModules)=false->f7 a->
  kws.map Prod.fst=kvs.map (λp=>i3 p.1)->z1 T U bad h (kvs.map Prod.snd) (kws.map Prod.snd)->VR T U bad f7 h (.Z9 kvs) (.ref a)
def Off (S:Addr->Prop) (h h':Heap):Prop:=∀a o,h.get? a=some o->¬S a->h'.get? a=some o
theorem Off.refl (S:Addr->Prop) (h:Heap):Off S h h:=λJ J e J=>e
theorem Off.trans {S S':Addr->Prop} {n6 r3 T9:Heap} (x:Off S n6 r3) (y:Off S' r3 T9) (hs:∀a o,n6.get? a=some o->S' a->S a):Off S n6 T9:=λa o e n=>y a o (x a o e n) λq=>n (hs a o e q)
theorem Off.of_keeps {S:Addr->Prop} {h h':Heap} (k:∀a o,h.get? a=some o->h'.get? a=some o):Off S h h':=λa o e J=>k a o e
theorem Off.mono {S S':Addr->Prop} {h h':Heap} (x:Off S h h') (hs:∀a o,h.get? a=some o->S a->S' a):Off S' h h':=λa o e n=>x a o e λq=>n (hs a o e q)
theorem Off.at {S:Addr->Prop} {h h':Heap} (x:Off S h h') {a:Addr} (n:¬S a):At a h h':=λo e=>x a o e n
structure Ms (U d7:List Addr) (bad bad' S:Addr->Prop) (h h':Heap):Prop where
 pre:∀(i:Nat) (a:Addr),U[i]? =some a->d7[i]? =some a
 off:Off S h h'
 sb:∀a o,h.get? a=some o->S a->bad a
 bb:∀a o,h.get? a=some o->bad' a->bad a
variable {T:i7} {U d7:List Addr}
section
variable {bad bad' f7 still' S:Addr->Prop}
theorem Ms.at (m:Ms U d7 bad bad' S h h') {a:Addr} (n:¬bad a):At a h h':=λo e=>m.off a o e λq=>n (m.sb a o e q)
theorem Ms.nb (m:Ms U d7 bad bad' S h h') {a:Addr} (n:¬bad a) (t:∃o,h.get? a=some o):¬bad' a:=λq=>t.elim λo e=>n (m.bb a o e q)
theorem VS.NH (m:Ms U d7 bad bad' S h h'):(∀v w,VS T U bad h v w->VS T d7 bad' h' v w)∧∀vs ws,z1 T U bad h vs ws->z1 T d7 bad' h' vs ws:=by
 have key:(∀(v:V) (w:Value),VS T U bad h v w->VS T d7 bad' h' v w)∧∀vs ws,z1 T U bad h vs ws->z1 T d7 bad' h' vs ws:=by
  constructor<;>intro v w x
  ·exact VS.rec (motive_1:=λv w J=>VS T d7 bad' h' v w) (motive_2:=λvs ws J=>z1 T d7 bad' h' vs ws) .G4 (λi a e=>.loc i a (m.pre i a e))
    (λxs ws a l n J r=>.tup xs ws a (l.at (m.at n)) (m.nb n l.there) r) (λv xs ws a e e2 l n J r=>.jo v xs ws a e e2 (l.at (m.at n)) (m.nb n l.there) r)
    (λc C at_ a dx kws hc ha n hd nd e J r=>.obj c C at_ a dx kws hc (m.at n _ ha) (m.nb n ⟨_,ha⟩) (B7 hd (m.at nd)) (m.nb nd (l9 hd)) e r)
    (λv kvs a kws e e2 hd hs n e3 J r=>.mX v kvs a kws e e2 (B7 hd (m.at n)) hs (m.nb n (l9 hd)) e3 r) .nil (λv w vs ws g J J a r=>.cons v w vs ws g a r) x
  ·exact z1.rec (motive_1:=λv w J=>VS T d7 bad' h' v w) (motive_2:=λvs ws J=>z1 T d7 bad' h' vs ws) .G4 (λi a e=>.loc i a (m.pre i a e))
    (λxs ws a l n J r=>.tup xs ws a (l.at (m.at n)) (m.nb n l.there) r) (λv xs ws a e e2 l n J r=>.jo v xs ws a e e2 (l.at (m.at n)) (m.nb n l.there) r)
    (λc C at_ a dx kws hc ha n hd nd e J r=>.obj c C at_ a dx kws hc (m.at n _ ha) (m.nb n ⟨_,ha⟩) (B7 hd (m.at nd)) (m.nb nd (l9 hd)) e r)
    (λv kvs a kws e e2 hd hs n e3 J r=>.mX v kvs a kws e e2 (B7 hd (m.at n)) hs (m.nb n (l9 hd)) e3 r) .nil (λv w vs ws g J J a r=>.cons v w vs ws g a r) x
 exact key
theorem VS.ms (m:Ms U d7 bad bad' S h h') {v:V} {w:Value} (x:VS T U bad h v w):VS T d7 bad' h' v w:=(VS.NH m).1 v w x
theorem z1.ms (m:Ms U d7 bad bad' S h h') {v:List V} {w:List Value} (x:z1 T U bad h v w):z1 T d7 bad' h' v w:=(VS.NH m).2 v w x
theorem VR.mv (m:Ms U d7 bad bad' S h h') (st:∀a o,h.get? a=some o->f7 a->still' a∧¬S a) {v:V} {w:Value} (x:VR T U bad f7 h v w):VR T d7 bad' still' h' v w:=by
 induction x with
 |mk _ _ x=>exact .mk _ _ (x.ms m)
 |Gd xs ws a l s r=>exact l.there.elim λo e=>.Gd xs ws a (l.at (m.off.at (st a o e s).2)) (st a o e s).1 (r.ms m)
 |snd kvs a kws d hs s e r=>exact(l9 d).elim λo e'=>.snd kvs a kws (B7 d (m.off.at (st a o e' s).2)) hs (st a o e' s).1 e (r.ms m)
theorem VR.vs {v:V} {w:Value} (x:VR T U bad f7 h v w) (g:solid v=true):VS T U bad h v w:=by
 induction x with
 |mk _ _ x=>exact x
 |Gd=>cases g
 |snd=>cases g
end
structure r9 where
 l6:List Addr
 own:List Addr
def k9 (T:i7) (W:r9) (U:List Addr) (a:Addr):Prop:=a∈U∨a∈W.l6∨a∈W.own∨a∈T.tabs
def A7 (T:i7) (W:r9) (U:List Addr) (a:Addr):Prop:=a∈U∨a∈W.l6∨a∈T.tabs
def qg (T:i7) (W:r9) (U:List Addr) (a:Addr):Prop:=¬A7 T W U a
noncomputable abbrev C5 (T:i7) (W:r9) (U:List Addr) (h:Heap):V->Value->Prop:=VR T U (k9 T W U) (qg T W U) h
noncomputable abbrev eP (T:i7) (W:r9) (U:List Addr) (h:Heap):V->Value->Prop:=VS T U (k9 T W U) h
noncomputable abbrev E4 (T:i7) (W:r9) (U:List Addr) (h:Heap):List V->List Value->Prop:=z1 T U (k9 T W U) h
inductive B1 (T:i7) (U:List Addr) (bad:Addr->Prop) (h:Heap):Option V->Option Value->Prop
 |none:B1 T U bad h none none
 |some (v:V) (w:Value):solid v=true->VS T U bad h v w->B1 T U bad h (some v) (some w)
inductive Nr (T:i7) (W:r9) (U:List Addr) (h:Heap) (a:Addr) (xs:List V):Prop
 |mk (ws:List Value) (l:R6 h a ws) (r:E4 T W U h xs ws)
inductive IH (T:i7) (W:r9) (U:List Addr) (h:Heap) (a:Addr) (f:Txt->Option V):Prop
 |mk (kws:List (Str×Value)) (d:h.DictOf (strKind T.prog T.w) a kws) (s:(a == sysModules)=false) (r:∀k,B1 T U (k9 T W U) h (f k) (valueAt kws (i3 k))) (u:∀p∈kws,∃k∈T.univ,p.1=i3 k)
inductive OC (T:i7) (W:r9) (U:List Addr) (h:Heap) (a:Addr) (kvs:List (Int×V)):Prop
 |mk (kws:List (Int×Value)) (d:h.DictOf (intKind T.prog T.w) a kws) (s:(a == sysModules)=false) (e:kws.map Prod.fst=kvs.map λp=>p.1) (r:E4 T W U h (kvs.map Prod.snd) (kws.map Prod.snd))
inductive OB (T:i7) (U:List Addr) (h:Heap) (a:Addr) (c d:Nat):Prop
 |mk (C dx:Addr) (hc:T.cls c=some C) (hd:U[d]? =some dx) (e:h.get? a=some ⟨.ref C,some dx,.plain,#[]⟩)
inductive Nt (h:Heap) (a:Addr):Prop
 |mk (n:Nat) (s:(a == sysModules)=false) (e:h.get? a=some {cls:=.type "dict",data:=.dict #[] n})
noncomputable def OR (T:i7) (W:r9) (U:List Addr) (h:Heap) (a:Addr):O->Prop
 |.list xs=>Nr T W U h a xs
 |.map f=>IH T W U h a f
 |.dB kvs=>OC T W U h a kvs
 |.inst c d=>OB T U h a c d
 |.emp=>Nt h a
structure Bp (T:i7) (W:r9) (U:List Addr) (h:Heap) (a:Addr):Prop where
 nm:¬A7 T W U a
 ex:∃o,h.get? a=some o
structure Ls (T:i7) (U:List Addr) (h:Heap) (a:Addr):Prop where
 nr:a∉U
 nt:a∉T.tabs
 ex:∃o,h.get? a=some o
structure BC (T:i7) (W:r9) (U:List Addr) (h:Heap):Prop where
 own:∀a,a∈W.own->Bp T W U h a
 l6:∀a,a∈W.l6->Ls T U h a
inductive ib (T:i7) (bad:Addr->Prop) (h:Heap) (P:Addr):Prop
 |mk (ps:Array Value) (e:h.get? P=some (tabObj ps)) (t:TriplesOk ps.toList) (r:∀pos cv,codeAmong pos ps.toList=some cv->∃c,cv=.ref c∧¬bad c∧h.CodeRec cv (T.zA P))
structure d9 (T:i7) (W:r9) (U:List Addr) (Y:Hp) (h:Heap):Prop where
 len:U.length=Y.length
 nodup:U.Nodup
 objs:∀(i:Nat) (o:O) (a:Addr),Y[i]? =some o->U[i]? =some a->OR T W U h a o
 base:T.B.StaysIn h
 fresh:∀a,k9 T W U a->T.B.get? a=none
 o5:BC T W U h
 tabs:∀P,P∈T.tabs->ib T (k9 T W U) h P
structure V2 (T:i7) (W:r9) (U d7:List Addr) (s s':Shared):Prop where
 pre:∀(i:Nat) (a:Addr),U[i]? =some a->d7[i]? =some a
 new:∀a,a∈d7->a∈U∨s.heap.get? a=none
 off:Off (A7 T W U) s.heap s'.heap
 there:∀a o,s.heap.get? a=some o->∃o',s'.heap.get? a=some o'
 slots:∀a,a∈W.l6->∀o,s.heap.get? a=some o->∃sl,s'.heap.get? a=some {o with slots:=sl}
 gens:s'.gens=s.gens
 os:s'.os=s.os
 drawn:s'.drawn=s.drawn
section
variable {W W':r9} {aE:List Addr} {s s' s'':Shared} {Y:Hp} {S:Addr->Prop}
theorem kR {α:Type} {l:List α} {a:α} (h:a∈l):∃i:Nat,l[i]? =some a:=List.mem_iff_getElem?.mp h
theorem Q1 {α:Type} {l:List α} {a:α} {i:Nat} (h:l[i]? =some a):a∈l:=Pm h
theorem d0 {α:Type} {x:Option α} {o:α} {G:Prop} (a:x=none) (b:x=some o):G:=nomatch a.symm.trans b
theorem B1.ms {bad bad':Addr->Prop} {x:Option V} {y:Option Value} (m:Ms U d7 bad bad' S h h') (r:B1 T U bad h x y):B1 T d7 bad' h' x y:=by
 induction r with
 |none=>exact .none
 |some v w g r=>exact .some v w g (r.ms m)
theorem OR.ms {o:O} {a:Addr} (m:Ms U d7 (k9 T W U) (k9 T W' d7) S h h') (k:At a h h') (g:OR T W U h a o):OR T W' d7 h' a o:=by
 induction o with
 |list xs=>exact match g with|⟨ws,l,r⟩=>⟨ws,l.at k,r.ms m⟩
 |map f=>exact match g with|⟨kws,d,s,r,u⟩=>⟨kws,B7 d k,s,λk=>(r k).ms m,u⟩
 |dB kvs=>exact match g with|⟨kws,d,s,e,r⟩=>⟨kws,B7 d k,s,e,r.ms m⟩
 |inst c d=>exact match g with|⟨C,dx,hc,hd,e⟩=>⟨C,dx,hc,m.pre _ _ hd,k _ e⟩
 |emp=>exact match g with|⟨n,s,e⟩=>⟨n,s,k _ e⟩
theorem OR.there {o:O} {a:Addr} (g:OR T W U h a o):∃ob,h.get? a=some ob:=by
 induction o with
 |list xs=>exact match g with|⟨_,l,_⟩=>l.there
 |map f=>exact match g with|⟨_,d,_,_,_⟩=>l9 d
 |dB kvs=>exact match g with|⟨_,d,_,_,_⟩=>l9 d
 |inst c d=>exact match g with|⟨_,_,_,_,e⟩=>⟨_,e⟩
 |emp=>exact match g with|⟨_,_,e⟩=>⟨_,e⟩
theorem ib.move {bad bad':Addr->Prop} {P:Addr} (x:ib T bad h P) (off:Off S h h') (hP:¬S P) (sb:∀a o,h.get? a=some o->S a->bad a) (bb:∀a o,h.get? a=some o->bad' a->bad a):ib T bad' h' P:=
 match x with
 |⟨ps,e,t,r⟩=>⟨ps,off _ _ e hP,t,λpos cv q=>match r pos cv q with
  |⟨c,ec,nb,c',o,vs,t',e2,g,d,z⟩=>have hc:c'=c:=Value.ref.inj (e2.symm.trans ec);⟨c,ec,λq=>nb (bb c o (hc▸g) q),c',o,vs,t',e2,off _ _ g λq=>nb (sb c o (hc▸g) (hc▸q)),d,z⟩⟩
theorem d9.at (x:d9 T W U Y h) {i:Nat} {o:O} (e:Y[i]? =some o) {G:Prop} (k:∀a,U[i]? =some a->OR T W U h a o->G):G:=by
 have hi:i < U.length:=x.len▸(List.getElem?_eq_some_iff.mp e).1
 exact k _ (Pb hi) (x.objs i o _ e (Pb hi))
theorem d9.there (x:d9 T W U Y h) {a:Addr} (ha:a∈U):∃ob,h.get? a=some ob:=by
 obtain⟨i,e⟩:=kR ha
 have hi:i < Y.length:=x.len▸(List.getElem?_eq_some_iff.mp e).1
 exact(x.objs i _ a (Pb hi) e).there
theorem d9.cM (x:d9 T W U Y h) {a:Addr} (q:k9 T W U a):∃ob,h.get? a=some ob:=
 q.elim x.there λq=>q.elim (λq=>(x.o5.l6 a q).ex) λq=>q.elim (λq=>(x.o5.own a q).ex) λq=>match x.tabs a q with|⟨_,e,_,_⟩=>⟨_,e⟩
theorem d9.N3 (x:d9 T W U Y h) {a:Addr} (e:h.get? a=none):¬k9 T W U a:=λq=>(x.cM q).elim λJ e'=>d0 e e'
theorem d9.T3 (c:d9 T W U Y h) (bb:∀a,k9 T W' U a->k9 T W U a∨h.get? a=none) (off:Off S h h') (hS:∀a,S a->a∈W.l6∨a∈W.own):Ms U U (k9 T W U) (k9 T W' U) S h h':=
 ⟨λJ J e=>e,off,λa J J q=>.inr ((hS a q).imp id .inl),λa o e q=>(bb a q).elim id λq=>d0 q e⟩
theorem d9.move (c:d9 T W U Y h) (bb:∀a,k9 T W' U a->k9 T W U a∨h.get? a=none) (off:Off S h h') (hS:∀a,S a->a∈W.l6∨a∈W.own) (o5:BC T W' U h'):d9 T W' U Y h':=
 have ms:=c.T3 bb off hS
 have nS:∀a,S a->∀{G:Prop},a∈U∨a∈T.tabs->G:=λa q J z=>absurd z λz=>(hS a q).elim (λq=>z.elim (c.o5.l6 a q).nr (c.o5.l6 a q).nt) λq=>(c.o5.own a q).nm (z.imp id .inr)
 {len:=c.len
  nodup:=c.nodup
  objs:=λi o a h1 h2=>OR.ms ms (off.at λq=>nS a q (.inl (Q1 h2))) (c.objs i o a h1 h2)
  base:=λa o e=>off a o (c.base a o e) λq=>d0 (c.fresh a (.inr ((hS a q).imp id .inl))) e
  fresh:=λa q=>(bb a q).elim (c.fresh a) λq=>by
   cases e:T.B.get? a with
   |none=>rfl
   |some o=>exact d0 q (c.base a o e)
  o5:=o5
  tabs:=λP hP=>(c.tabs P hP).move off (λq=>nS P q (.inr hP)) ms.sb ms.bb}
theorem BC.keeps (x:BC T W U h) (k:∀a o,h.get? a=some o->∃o',h'.get? a=some o'):BC T W U h':=
 ⟨λa ha=>⟨(x.own a ha).nm,(x.own a ha).ex.elim (k a)⟩,λa ha=>⟨(x.l6 a ha).nr,(x.l6 a ha).nt,(x.l6 a ha).ex.elim (k a)⟩⟩
theorem d9.keeps (c:d9 T W U Y h) (k:∀a o,h.get? a=some o->h'.get? a=some o):d9 T W U Y h':=
 c.move (S:=λJ=>False) (λJ q=>.inl q) (Off.of_keeps k) (λJ q=>q.elim) (c.o5.keeps λa o e=>⟨o,k a o e⟩)
theorem V2.sub (x:V2 T W U d7 s s') {a:Addr} (h:a∈U):a∈d7:=(kR h).elim λi e=>Q1 (x.pre i a e)
theorem V2.refl:V2 T W U U s s:=⟨λJ J e=>e,λJ h=>.inl h,Off.refl _ _,λJ o e=>⟨o,e⟩,λJ J o e=>⟨o.slots,e⟩,rfl,rfl,rfl⟩
theorem V2.since (x:V2 T W U d7 s s') {a:Addr} (e:s'.heap.get? a=none):s.heap.get? a=none:=by
 induction q:s.heap.get? a with
 |none=>rfl
 |some o=>exact(x.there a o q).elim λJ e'=>d0 e e'
theorem V2.bE (x:V2 T W U d7 s s') {a:Addr} {o:Obj} (e:s.heap.get? a=some o) (h:k9 T W d7 a):k9 T W U a:=h.imp (λh=>(x.new a h).elim id λq=>d0 q e) id
theorem A7.bad {a:Addr} (q:A7 T W U a):k9 T W U a:=q.imp id λq=>q.imp id .inr
theorem V2.ms (x:V2 T W U d7 s s'):Ms U d7 (k9 T W U) (k9 T W d7) (A7 T W U) s.heap s'.heap:=⟨x.pre,x.off,λJ J J q=>q.bad,λJ J e q=>x.bE e q⟩
theorem V2.f7 (x:V2 T W U d7 s s'):∀a o,s.heap.get? a=some o->qg T W U a->qg T W d7 a∧¬A7 T W U a:=λa J e q=>⟨λz=>q (z.imp (λz=>(x.new a z).elim id λz=>d0 z e) id),q⟩
theorem V2.vr (x:V2 T W U d7 s s') {v:V} {w:Value} (h:C5 T W U s.heap v w):C5 T W d7 s'.heap v w:=VR.mv x.ms x.f7 h
theorem V2.vs (x:V2 T W U d7 s s') {v:V} {w:Value} (h:eP T W U s.heap v w):eP T W d7 s'.heap v w:=h.ms x.ms
theorem V2.IT (x:V2 T W U d7 s s') {v:List V} {w:List Value} (h:E4 T W U s.heap v w):E4 T W d7 s'.heap v w:=h.ms x.ms
theorem V2.trans (x:V2 T W U d7 s s') (y:V2 T W d7 aE s' s''):V2 T W U aE s s'' where
 pre:=λi a e=>y.pre i a (x.pre i a e)
 new:=λa h=>(y.new a h).elim (x.new a) λh=>.inr (x.since h)
 off:=x.off.trans y.off λa o e h=>h.imp (λh=>(x.new a h).elim id λq=>d0 q e) id
 there:=λa o e=>(x.there a o e).elim (y.there a)
 slots:=λa ha o e=>(x.slots a ha o e).elim λJ C0=>(y.slots a ha _ C0).elim λsl' HM=>⟨sl',HM⟩
 gens:=y.gens.trans x.gens
 os:=y.os.trans x.os
 drawn:=y.drawn.trans x.drawn
theorem V2.of_keeps {t:Nat} (k:∀a o,s.heap.get? a=some o->h'.get? a=some o):V2 T W U U s {s with heap:=h',toks:=t}:=
 ⟨λJ J e=>e,λJ h=>.inl h,Off.of_keeps k,λa o e=>⟨o,k a o e⟩,λa J o e=>⟨o.slots,k a o e⟩,rfl,rfl,rfl⟩
structure i4 (T:i7) (W:r9) (U:List Addr) (s:Shared) (c7:Hp) (d7:List Addr) (s':Shared):Prop where
 ext:V2 T W U d7 s s'
 rel:d9 T W d7 c7 s'.heap
variable {c7 u3:Hp}
theorem i4.refl (c:d9 T W U Y s.heap):i4 T W U s Y U s:=⟨V2.refl,c⟩
theorem i4.trans (x:i4 T W U s c7 d7 s') (y:i4 T W d7 s' u3 aE s''):i4 T W U s u3 aE s'':=⟨x.ext.trans y.ext,y.rel⟩
theorem i4.keeps (c:d9 T W U Y s.heap) {t:Nat} (k:∀a o,s.heap.get? a=some o->h'.get? a=some o):i4 T W U s Y U {s with heap:=h',toks:=t}:=⟨V2.of_keeps k,c.keeps k⟩
theorem i4.toks (c:d9 T W U Y s.heap) {t:Nat}:i4 T W U s Y U {s with toks:=t}:=i4.keeps c λJ J e=>e
noncomputable def r9.add (W:r9) (ds:List Addr):r9:=⟨W.l6,ds++W.own⟩
theorem R1 {ds:List Addr} {a:Addr} (q:k9 T (W.add ds) U a):a∈ds∨k9 T W U a:=
 q.elim (λq=>.inr (.inl q)) λq=>q.elim (λq=>.inr (.inr (.inl q))) λq=>q.elim (λq=>(Px q).imp id λq=>.inr (.inr (.inl q))) λq=>.inr (.inr (.inr (.inr q)))
theorem d9.adopt {ds:List Addr} (c:d9 T W U Y h) (k:∀a o,h.get? a=some o->h'.get? a=some o) (hn:∀d,d∈ds->h.get? d=none) (hy:∀d,d∈ds->∃o,h'.get? d=some o):d9 T (W.add ds) U Y h':=
 c.move (S:=λJ=>False) (λa q=>(R1 q).elim (λq=>.inr (hn a q)) .inl) (Off.of_keeps k) (λJ q=>q.elim)
  ⟨λa ha=>(Px ha).elim (λq=>⟨λz=>c.N3 (hn a q) (A7.bad z),hy a q⟩) λq=>⟨(c.o5.own a q).nm,(c.o5.own a q).ex.elim λo e=>⟨o,k a o e⟩⟩,(c.o5.keeps λa o e=>⟨o,k a o e⟩).l6⟩
theorem bH {ds:List Addr} (k:∀a o,h.get? a=some o->h'.get? a=some o) (hn:∀d,d∈ds->h.get? d=none):Ms U U (k9 T W U) (k9 T (W.add ds) U) (λJ=>False) h h':=
 ⟨λJ J e=>e,Off.of_keeps k,λJ J J q=>q.elim,λa J e q=>(R1 q).elim (λq=>d0 (hn a q) e) id⟩
structure qc (W:r9) (D:Addr->Prop) (h h':Heap):Prop where
 keep:Off D h h'
 there:∀a o,h.get? a=some o->∃o',h'.get? a=some o'
 held:∀a,D a->a∈W.l6∨a∈W.own
 frame:∀a,a∈W.l6->D a->∃o',h'.get? a=some o'∧∀vs,o'.data≠.fields vs
variable {D:Addr->Prop}
theorem qc.ms (t:qc W D h h'):Ms U U (k9 T W U) (k9 T W U) D h h':=⟨λJ J e=>e,t.keep,λa J J q=>.inr ((t.held a q).imp id .inl),λJ J J q=>q⟩
theorem d9.turn (c:d9 T W U Y h) (t:qc W D h h'):d9 T W U Y h':=c.move (λJ q=>.inl q) t.keep t.held (c.o5.keeps t.there)
structure s8 (s:Shared) (W W':r9):Prop where
 l6:W'.l6=W.l6
 own:∀a,a∈W.own->a∈W'.own
 C1:∀a,a∈W'.own->a∈W.own∨s.heap.get? a=none
structure In (W W':r9) (s:Shared):Prop where
 l6:∀a,a∈W.l6->a∈W'.l6
 own:∀a,a∈W.own->a∈W'.own
 gE:∀a,a∈W'.l6->a∈W.l6∨s.heap.get? a=none
 C1:∀a,a∈W'.own->a∈W.own∨s.heap.get? a=none
variable {W'':r9}
theorem s8.v5 (g:s8 s W W'):In W W' s:=⟨λJ q=>g.l6▸q,g.own,λJ q=>.inl (g.l6▸q),g.C1⟩
theorem s8.refl:s8 s W W:=⟨rfl,λJ h=>h,λJ h=>.inl h⟩
theorem s8.add {ds:List Addr} (hn:∀d,d∈ds->s.heap.get? d=none):s8 s W (W.add ds):=⟨rfl,λJ h=>OS _ h,λa h=>(Px h).elim (λh=>.inr (hn a h)) .inl⟩
theorem In.bad (x:In W W' s) {a:Addr} (h:k9 T W U a):k9 T W' U a:=h.imp id λh=>h.imp (x.l6 a) λh=>h.imp (x.own a) id
theorem In.back (x:In W W' s) {a:Addr} {o:Obj} (e:s.heap.get? a=some o) (h:k9 T W' U a):k9 T W U a:=h.imp id λh=>h.imp (λh=>(x.gE a h).elim id λq=>d0 q e) λh=>h.imp (λh=>(x.C1 a h).elim id λq=>d0 q e) id
theorem In.ms (x:In W W' s) (h:Heap):Ms U U (k9 T W' U) (k9 T W U) (λJ=>False) h h:=⟨λJ J e=>e,Off.refl _ _,λJ J J q=>q.elim,λJ J J q=>x.bad q⟩
theorem d9.shrink (x:In W W' s) (c:d9 T W' U Y h):d9 T W U Y h:=
 c.move (S:=λJ=>False) (λJ q=>.inl (x.bad q)) (Off.refl _ _) (λJ q=>q.elim) ⟨λa ha=>⟨λz=>(c.o5.own a (x.own a ha)).nm (z.imp id λz=>z.imp (x.l6 a) id),(c.o5.own a (x.own a ha)).ex⟩,λa ha=>c.o5.l6 a (x.l6 a ha)⟩
theorem s8.ms (g:s8 s W W') (h:Heap):Ms U U (k9 T W' U) (k9 T W U) (λJ=>False) h h:=g.v5.ms h
theorem s8.since (g:s8 s' W W') (x:V2 T W'' U d7 s s'):s8 s W W':=⟨g.l6,g.own,λa h=>(g.C1 a h).imp id x.since⟩
theorem s8.trans (g:s8 s W W') (g':s8 s W' W''):s8 s W W'':=⟨g'.l6.trans g.l6,λa h=>g'.own a (g.own a h),λa h=>(g'.C1 a h).elim (g.C1 a) .inr⟩
theorem d9.FO (g:s8 s W W') (c:d9 T W' U Y h):d9 T W U Y h:=c.shrink g.v5
theorem i4.under (x:In W W' s) (o:i4 T W U s c7 d7 s') (p:i4 T W' d7 s' u3 aE s''):i4 T W U s u3 aE s'' where
 ext:={
  pre:=λi a e=>p.ext.pre i a (o.ext.pre i a e)
  new:=λa h=>(p.ext.new a h).elim (o.ext.new a) λh=>.inr (o.ext.since h)
  off:=λa ob e q=>p.ext.off a ob (o.ext.off a ob e q) λz=>q (z.imp (λz=>(o.ext.new a z).elim id λz=>d0 z e) λz=>z.imp (λz=>(x.gE a z).elim id λz=>d0 z e) id)
  there:=λa ob e=>(o.ext.there a ob e).elim (p.ext.there a)
  slots:=λa ha ob e=>(o.ext.slots a ha ob e).elim λJ C0=>(p.ext.slots a (x.l6 a ha) _ C0).elim λsl' HM=>⟨sl',HM⟩
  gens:=p.ext.gens.trans o.ext.gens
  os:=p.ext.os.trans o.ext.os
  drawn:=p.ext.drawn.trans o.ext.drawn}
 rel:=p.rel.shrink x
theorem i4.jG (g:s8 s W W') (o:i4 T W U s c7 d7 s') (p:i4 T W' d7 s' u3 aE s''):i4 T W U s u3 aE s'':=i4.under g.v5 o p
structure ic (s s':Shared):Prop where
 gens:s'.gens=s.gens
 os:s'.os=s.os
 drawn:s'.drawn=s.drawn
theorem i4.turn (o:i4 T W U s c7 d7 s') (k:Off D s'.heap s''.heap) (hD:∀a,D a->s.heap.get? a=none) (hg:ic s' s'') (c:d9 T W d7 u3 s''.heap):i4 T W U s u3 d7 s'' where
 ext:={
  pre:=o.ext.pre
  new:=o.ext.new
  off:=λa ob e q=>k a ob (o.ext.off a ob e q) λz=>d0 (hD a z) e
  there:=λa ob e=>(o.ext.there a ob e).elim λob' e'=>⟨ob',k a ob' e' λq=>d0 (hD a q) e⟩
  slots:=λa ha ob e=>(o.ext.slots a ha ob e).elim λsl C0=>⟨sl,k a _ C0 λz=>d0 (hD a z) e⟩
  gens:=hg.gens.trans o.ext.gens
  os:=hg.os.trans o.ext.os
  drawn:=hg.drawn.trans o.ext.drawn}
 rel:=c
theorem g9 (h:Heap) (o:Obj):∀a o',h.get? a=some o'->(h.push o).get? a=some o':=λJ J e=>OT o e
theorem none_at_size (h:Heap):h.get? h.objs.size=none:=by
 induction q:h.get? h.objs.size with
 |none=>rfl
 |some o=>exact absurd (Pu q) (Nat.lt_irrefl _)
theorem y9 (h:Heap):∀d,d∈[h.objs.size]->h.get? d=none:=λd hd=>(OX hd)▸none_at_size h
theorem O2 {h:Heap} {ob:Obj} (hf:ob.isFreed=false):∀d,d∈[h.objs.size]->∃o,(h.push ob).get? d=some o:=λd hd=>⟨ob,(OX hd)▸OU _ hf⟩
end
theorem ns {α:Type} {x:α} {G:Prop} (e:none=some x):G:=nomatch e
theorem a0 {α β:Type} {o:Option α} {f:α->Option β} {b:β} {G:Prop} (e:o.bind f=some b) (k:∀a,o=some a->f a=some b->G):G:=by
 induction o with
 |none=>cases e
 |some a=>exact k a rfl e
theorem cg {α β:Type} {o:Option α} {f:α->β} {g:β} {K:β->Prop} {G:Prop} (h:K (og o f g)) (k:∀a,o=some a->K (f a)->G) (k':o=none->K g->G):G:=by
 induction o with
 |none=>exact k' rfl h
 |some a=>exact k a rfl h
theorem d8 {α β:Type} {o:Option α} {f:α->β} {b:β} {G:Prop} (e:o.map f=some b) (k:∀a,o=some a->f a=b->G):G:=by
 induction o with
 |none=>cases e
 |some a=>exact k a rfl (ON e)
theorem i0 {α:Type} {o p:Option α} {b:α} {G:Prop} (e:o.or p=some b) (k:o=some b->G) (k':p=some b->G):G:=by
 induction o with
 |none=>exact k' e
 |some a=>exact k e
theorem i9 {α:Type} {b:Bool} {x v:α} {G:Prop} (e:gd b x=some v) (k:b=true->x=v->G):G:=by
 induction b with
 |false=>cases e
 |true=>exact k rfl (ON e)
theorem B3 {α:Type} {l:List α} {x:α} (e:y0 l=some x):l=[x]:=by
 induction l with
 |nil=>cases e
 |cons a r=>induction r with
  |nil=>exact OY (· ::[]) (ON e)
  |cons=>cases e
theorem xK {α:Type} {l:List α} {q:α×List α} (e:LI l=some q):l=q.1::q.2:=by
 induction l with
 |nil=>exact ns e
 |cons a r=>cases e;rfl
theorem two1_eq {α:Type} {l:List α} {x:α×α} (e:two1 l=some x):l=[x.1,x.2]:=a0 e λq eq e=>d8 e λy ey e=>by rw[xK eq,B3 ey,←e]
theorem uR {α:Type} {l:List α} {x:α×α×α} (e:xY l=some x):l=[x.1,x.2.1,x.2.2]:=a0 e λq eq e=>d8 e λy ey e=>by rw[xK eq,two1_eq ey,←e]
theorem T2 {i:Int} {n:Nat} (e:jj i=some n):i=Int.ofNat n:=by
 induction i with
 |ofNat=>exact OY Int.ofNat (ON e)
 |negSucc=>cases e
theorem O0 {o:O} {x:List V} (e:fL o=some x):o=.list x:=by induction o<;>first|exact ns e|exact OY _ (ON e)
theorem H5 {o:O} {x:Txt->Option V} (e:ir o=some x):o=.map x:=by induction o<;>first|exact ns e|exact OY _ (ON e)
theorem fM {o:O} {x:List (Int×V)} (e:tH o=some x):o=.dB x:=by induction o<;>first|exact ns e|exact OY _ (ON e)
theorem oi {o:O} {x:Nat×Nat} (e:tG o=some x):o=.inst x.1 x.2:=by induction o<;>first|exact ns e|(cases e;rfl)
theorem W7 {o:O} {x:Unit} (e:oj o=some x):o=.emp:=by induction o<;>first|rfl|exact ns e
theorem uF {o:X} {x:Nat} (e:IB o=some x):o=.OK x:=by cases o<;>first|exact ns e|exact OY _ (ON e)
variable {v:V}
section
theorem cN {x:Unit} (e:F8 v=some x):v=.none:=by cases v<;>first|rfl|exact ns e
theorem cO {x:Bool} (e:L5 v=some x):v=.bool x:=by cases v<;>first|exact ns e|exact OY _ (ON e)
theorem hM {x:Int} (e:z5 v=some x):v=.int x:=by cases v<;>first|exact ns e|exact OY _ (ON e)
theorem U7 {x:Txt} (e:r6 v=some x):v=.str x:=by cases v<;>first|exact ns e|exact OY _ (ON e)
theorem aA {x:List Nat} (e:H9 v=some x):v=.bytes x:=by cases v<;>first|exact ns e|exact OY _ (ON e)
theorem bF {x:List V} (e:N1 v=some x):v=.tup x:=by cases v<;>first|exact ns e|exact OY _ (ON e)
theorem pZ {x:Nat×Fr} (e:kb v=some x):v=.obj x.1 x.2:=by cases v<;>first|exact ns e|(cases e;rfl)
theorem U8 {x:Nat} (e:L2 v=some x):v=.loc x:=by cases v<;>first|exact ns e|exact OY _ (ON e)
theorem mq {x:Nat} (e:Ej v=some x):v=.fn x:=by cases v<;>first|exact ns e|exact OY _ (ON e)
theorem qa {x:Nat} (e:Bh v=some x):v=.cls x:=by cases v<;>first|exact ns e|exact OY _ (ON e)
theorem mx {x:Bi} (e:Bk v=some x):v=.bi x:=by cases v<;>first|exact ns e|exact OY _ (ON e)
theorem eK {x:List V} (e:xm v=some x):v=.g6 x:=by cases v<;>first|exact ns e|exact OY _ (ON e)
theorem mj {x:List (Txt×V)} (e:sE v=some x):v=.E2 x:=by cases v<;>first|exact ns e|exact OY _ (ON e)
theorem Eh {x:Nat×Fr} (e:Ei v=some x):v=.cu x.1 x.2:=by cases v<;>first|exact ns e|(cases e;rfl)
theorem gO {xs:List V} {kvs:List (Txt×V)} {G:Prop} (e:E3 v=some xs) (e':ents v=some kvs):G:=by cases v<;>first|exact ns e|exact ns e'
end
section
variable {bad f7:Addr->Prop} {w:Value} {G:Value->Prop}
theorem bN.E3 (x:bN T v w):E3 v=Option.none:=by induction x<;>rfl
theorem bN.ents (x:bN T v w):ents v=Option.none:=by induction x<;>rfl
noncomputable def GL:V->Bool
 |.loc _=>false
 |.tup _=>false
 |.obj _ _=>false
 |.snap _=>false
 |.Z9 _=>false
 |_=>true
theorem VR.G4 (x:VR T U bad f7 h v w) (e:GL v=true) (h1:Mine.E3 v=Option.none) (h2:Mine.ents v=Option.none):bN T v w:=by
 induction x with
 |mk _ _ x=>
  cases x with
  |G4 _ _ x=>exact x
  |loc|tup|obj=>exact Bool.noConfusion e
  |jo _ _ _ _ e1=>exact d0 h1 e1
  |mX _ _ _ _ e1=>exact d0 h2 e1
 |Gd|snd=>exact Bool.noConfusion e
@[elab_as_elim] theorem VR.I9 (x:VR T U bad f7 h .none w) (k:G .none):G w:=by
 cases x.G4 rfl rfl rfl with|none=>exact k
@[elab_as_elim] theorem VR.H7 {b:Bool} (x:VR T U bad f7 h (.bool b) w) (k:G (.bool b)):G w:=by
 cases x.G4 rfl rfl rfl with|bool=>exact k
@[elab_as_elim] theorem VR.u6 {b:Int} (x:VR T U bad f7 h (.int b) w) (k:∀t,G (.int b t)):G w:=by
 cases x.G4 rfl rfl rfl with|int _ t=>exact k t
@[elab_as_elim] theorem VR.n8 {b:Txt} (x:VR T U bad f7 h (.str b) w) (k:∀t,t6 b=true->G (.str (i3 b) t)):G w:=by
 cases x.G4 rfl rfl rfl with|str _ t a=>exact k t a
@[elab_as_elim] theorem VR.F6 {b:List Nat} (x:VR T U bad f7 h (.bytes b) w) (k:∀a t,a.toList.map UInt8.toNat=b->G (.bytes a t)):G w:=by
 cases x.G4 rfl rfl rfl with|bytes _ a t e=>exact k a t e
@[elab_as_elim] theorem VR.Ku {b:Nat} (x:VR T U bad f7 h (.fn b) w) (k:∀a,T.fn b=Option.some a->G (.ref a)):G w:=by
 cases x.G4 rfl rfl rfl with|fn _ a e=>exact k a e
@[elab_as_elim] theorem VR.HZ {b:Nat} (x:VR T U bad f7 h (.cls b) w) (k:∀a,T.cls b=Option.some a->G (.ref a)):G w:=by
 cases x.G4 rfl rfl rfl with|cls _ a e=>exact k a e
@[elab_as_elim] theorem VR.Fy {b:Bi} (x:VR T U bad f7 h (.bi b) w) (k:G (T.bi b)):G w:=by
 cases x.G4 rfl rfl rfl with|bi=>exact k
@[elab_as_elim] theorem VR.A9 {b:Nat} (x:VR T U bad f7 h (.loc b) w) (k:∀a,U[b]? =Option.some a->G (.ref a)):G w:=by
 cases x with
 |mk _ _ x=>
  cases x with
  |G4 _ _ x=>cases x
  |loc _ a e=>exact k a e
  |jo _ _ _ _ e=>cases e
  |mX _ _ _ _ e=>cases e
@[elab_as_elim] theorem VR.E7 {b:List V} (x:VR T U bad f7 h (.tup b) w) (k:∀a ws,mZ h a ws->¬bad a->z1 T U bad h b ws->G (.ref a)):G w:=by
 cases x with
 |mk _ _ x=>
  cases x with
  |G4 _ _ x=>cases x
  |tup _ ws a l n r=>exact k a ws l n r
  |jo _ _ _ _ e=>cases e
  |mX _ _ _ _ e=>cases e
inductive FJ (T:i7) (U:List Addr) (bad:Addr->Prop) (h:Heap) (c:Nat) (at_:Fr) (a:Addr):Prop
 |mk (C dx:Addr) (kws:List (Str×Value)) (hc:T.cls c=some C) (ha:h.get? a=some ⟨.ref C,some dx,.plain,#[]⟩) (n:¬bad a) (hd:h.DictOf (strKind T.prog T.w) dx kws) (nd:¬bad dx)
  (e:kws.map Prod.fst=at_.map (λp=>T.nm p.1)) (r:z1 T U bad h (at_.map Prod.snd) (kws.map Prod.snd))
@[elab_as_elim] theorem VR.kB {c:Nat} {at_:Fr} (x:VR T U bad f7 h (.obj c at_) w) (k:∀a,FJ T U bad h c at_ a->G (.ref a)):G w:=by
 cases x with
 |mk _ _ x=>
  cases x with
  |G4 _ _ x=>cases x
  |obj _ C _ a dx kws hc ha n hd nd e r=>exact k a ⟨C,dx,kws,hc,ha,n,hd,nd,e,r⟩
  |jo _ _ _ _ e=>cases e
  |mX _ _ _ _ e=>cases e
@[elab_as_elim] theorem VR.z0 {xs:List V} (x:VR T U bad f7 h v w) (e:E3 v=some xs) (k:∀a ws,R6 h a ws->(dA v=false->¬bad a)->z1 T U bad h xs ws->G (.ref a)):G w:=by
 induction x with
 |mk _ _ x=>cases x with
  |G4 _ _ x=>exact d0 x.E3 e
  |loc|tup|obj=>cases e
  |jo _ _ ws a e' _ l n r=>exact k a ws l (λJ=>n) (ON (e'.symm.trans e)▸r)
  |mX _ _ _ _ e'=>exact gO e e'
 |Gd xs ws a l s r=>exact k a ws l nofun (ON e▸r)
 |snd=>cases e
inductive V1 (T:i7) (U:List Addr) (bad:Addr->Prop) (h:Heap) (kvs:List (Txt×V)) (a:Addr):Prop
 |mk (kws:List (Str×Value)) (hd:h.DictOf (strKind T.prog T.w) a kws) (s:(a == sysModules)=false) (e:kws.map Prod.fst=kvs.map (λp=>i3 p.1)) (r:z1 T U bad h (kvs.map Prod.snd) (kws.map Prod.snd))
@[elab_as_elim] theorem VR.U2 {kvs:List (Txt×V)} (x:VR T U bad f7 h v w) (e:ents v=some kvs) (k:∀a,V1 T U bad h kvs a->G (.ref a)):G w:=by
 induction x with
 |mk _ _ x=>cases x with
  |G4 _ _ x=>exact d0 x.ents e
  |loc|tup|obj=>cases e
  |jo _ _ _ _ e'=>exact gO e' e
  |mX _ _ a kws e' _ hd s n e2 r=>exact k a ⟨kws,hd,s,ON (e'.symm.trans e)▸e2,ON (e'.symm.trans e)▸r⟩
 |Gd=>cases e
 |snd _ a kws hd s _ e2 r=>exact k a ⟨kws,hd,s,ON e▸e2,ON e▸r⟩
@[elab_as_elim] theorem u6 {b:Int} (x:VR T U bad f7 h v w) (e:z5 v=some b) (k:∀t,G (.int b t)):G w:=by obtain rfl:=hM e;exact VR.u6 x k
@[elab_as_elim] theorem n8 {b:Txt} (x:VR T U bad f7 h v w) (e:r6 v=some b) (k:∀t,t6 b=true->G (.str (i3 b) t)):G w:=by obtain rfl:=U7 e;exact VR.n8 x k
@[elab_as_elim] theorem H7 {b:Bool} (x:VR T U bad f7 h v w) (e:L5 v=some b) (k:G (.bool b)):G w:=by obtain rfl:=cO e;exact VR.H7 x k
@[elab_as_elim] theorem I9 {b:Unit} (x:VR T U bad f7 h v w) (e:F8 v=some b) (k:G .none):G w:=by obtain rfl:=cN e;exact VR.I9 x k
@[elab_as_elim] theorem F6 {b:List Nat} (x:VR T U bad f7 h v w) (e:H9 v=some b) (k:∀a t,a.toList.map UInt8.toNat=b->G (.bytes a t)):G w:=by obtain rfl:=aA e;exact VR.F6 x k
@[elab_as_elim] theorem A9 {b:Nat} (x:VR T U bad f7 h v w) (e:L2 v=some b) (k:∀a,U[b]? =some a->G (.ref a)):G w:=by obtain rfl:=U8 e;exact VR.A9 x k
@[elab_as_elim] theorem E7 {b:List V} (x:VR T U bad f7 h v w) (e:N1 v=some b) (k:∀a ws,mZ h a ws->¬bad a->z1 T U bad h b ws->G (.ref a)):G w:=by obtain rfl:=bF e;exact VR.E7 x k
@[elab_as_elim] theorem kB {b:Nat×Fr} (x:VR T U bad f7 h v w) (e:kb v=some b) (k:∀a,FJ T U bad h b.1 b.2 a->G (.ref a)):G w:=by obtain rfl:=pZ e;exact VR.kB x k
theorem z1.length {xs:List V} {ws:List Value} (x:z1 T U bad h xs ws):ws.length=xs.length:=by
 induction xs generalizing ws with
 |nil=>cases x;rfl
 |cons v r ih=>cases x with|cons _ w _ ws _ _ q=>exact OY (· +1) (ih q)
theorem z1.append {xs ys:List V} {ws us:List Value} (x:z1 T U bad h xs ws) (y:z1 T U bad h ys us):z1 T U bad h (xs++ys) (ws++us):=by
 induction xs generalizing ws with
 |nil=>cases x;exact y
 |cons v r ih=>cases x with|cons _ w _ ws g a q=>exact .cons _ _ _ _ g a (ih q)
theorem z1.at {xs:List V} {ws:List Value} {j:Nat} {v:V} {G:Prop} (x:z1 T U bad h xs ws) (e:xs[j]? =some v) (k:∀w,ws[j]? =some w->solid v=true->VS T U bad h v w->G):G:=by
 induction j generalizing xs ws with
 |zero=>cases x with
  |nil=>cases e
  |cons _ w _ _ g a _=>cases e;exact k w rfl g a
 |succ j ih=>cases x with
  |nil=>cases e
  |cons _ _ _ _ _ _ q=>exact ih q e k
structure J8 {κ K:Type} (T:i7) (U:List Addr) (bad:Addr->Prop) (h:Heap) (key:κ->K) (kvs:List (κ×V)) (kws:List (K×Value)):Prop where
 e:kws.map Prod.fst=kvs.map λp=>key p.1
 r:z1 T U bad h (kvs.map Prod.snd) (kws.map Prod.snd)
section
variable {κ K:Type} {key:κ->K} {kvs kvs':List (κ×V)} {kws kws':List (K×Value)}
@[elab_as_elim] theorem J8.aO {Q:List (κ×V)->List (K×Value)->Prop} (x:J8 T U bad h key kvs kws) (h0:Q [] []) (h1:∀p w r es,solid p.2=true->VS T U bad h p.2 w->J8 T U bad h key r es->Q r es->Q (p::r) ((key p.1,w)::es)):Q kvs kws:=by
 obtain⟨e,r⟩:=x
 induction kvs generalizing kws with
 |nil=>induction kws with
  |nil=>exact h0
  |cons=>cases e
 |cons p l ih=>cases kws with
  |nil=>cases e
  |cons q es=>induction q with|mk y w=>cases r with|cons _ _ _ _ g a r=>(have e1:y=key p.1:=(List.cons.inj e).1);subst e1;exact h1 p w l es g a ⟨(List.cons.inj e).2,r⟩ (ih (List.cons.inj e).2 r)
theorem J8.nil:J8 T U bad h key [] []:=⟨rfl,.nil⟩
theorem J8.cons {p:κ×V} (g:solid p.2=true) (a:VS T U bad h p.2 w) (x:J8 T U bad h key kvs kws):J8 T U bad h key (p::kvs) ((key p.1,w)::kws):=⟨OY (_:: ·) x.e,.cons _ _ _ _ g a x.r⟩
theorem J8.append (x:J8 T U bad h key kvs kws) (y:J8 T U bad h key kvs' kws'):J8 T U bad h key (kvs++kvs') (kws++kws'):=x.aO y λp w J J g a J ih=>.cons g a ih
theorem J8.ms {d7:List Addr} {bad' S:Addr->Prop} {h':Heap} (x:J8 T U bad h key kvs kws) (m:Ms U d7 bad bad' S h h'):J8 T d7 bad' h' key kvs kws:=⟨x.e,x.r.ms m⟩
variable [DecidableEq K]
theorem i6 (k q:K) (v:Value) (r:List (K×Value)):valueAt ((q,v)::r) k=if q=k then some v else valueAt r k:=by
 unfold valueAt
 by_cases h:q=k
 ·simp[h]
 ·simp[h]
variable {eq:κ->κ->Bool} (he:∀a b,eq a b=decide (key a=key b))
include he
theorem J8.look (x:J8 T U bad h key kvs kws) (k:κ):B1 T U bad h (R9 eq kvs k) (valueAt kws (key k)):=by
 refine x.aO .none λp w r es g a J ih=>?_
 rw[i6]
 show B1 T U bad h (bif eq p.1 k then some p.2 else R9 eq r k) _
 rw[he]
 by_cases e:key p.1=key k
 ·rw[Pp e,decide_eq_true e];exact .some _ _ g a
 ·rw[Pq e,decide_eq_false e];exact ih
theorem J8.set (x:J8 T U bad h key kvs kws) {k:κ} {v:V} {w:Value} (g:solid v=true) (a:VS T U bad h v w):J8 T U bad h key (qK eq kvs k v) (stored kws (key k) w):=by
 have hany:kws.any (λkv=>decide (kv.1=key k))=kvs.any λp=>eq p.1 k:=x.aO rfl λp w r es J J J ih=>by rw[List.any_cons,List.any_cons,ih,he]
 unfold qK stored
 rw[←hany]
 induction kws.any (λkv=>decide (kv.1=key k))with
 |false=>exact x.append (.cons (p:=(k,v)) g a .nil)
 |true=>
  refine x.aO .nil λp u r es g' a' J ih=>?_
  show J8 T U bad h key ((bif eq p.1 k then(p.1,v)else p)::_) ((if key p.1=key k then(key p.1,w)else(key p.1,u))::_)
  rw[he]
  by_cases e:key p.1=key k
  ·rw[Pp e,decide_eq_true e];exact .cons (p:=(p.1,v)) g a ih
  ·rw[Pq e,decide_eq_false e];exact .cons g' a' ih
end
theorem B1.W4 {b:V} {x:Option Value} (r:B1 T U bad h (Option.some b) x) {G:Prop} (k:∀w,x=Option.some w->solid b=true->VS T U bad h b w->G):G:=by
 cases r with|some _ w g a=>exact k w rfl g a
theorem B1.isSome {o:Option V} {x:Option Value} (r:B1 T U bad h o x):x.isSome=c3 o:=by induction r<;>rfl
theorem B1.aS {x:Option Value} (r:B1 T U bad h Option.none x):x=Option.none:=by cases r;rfl
end
theorem D1:∀{a b:Txt},r5 a b=true↔a=b:=@λa=>by
 induction a with
 |nil=>intro b;induction b<;>simp[r5]
 |cons x r ih=>intro b;induction b<;>simp[r5,ih]
theorem D2 (a b:Txt):r5 a b=decide (i3 a=i3 b):=by
 cases e:r5 a b with
 |true=>rw[D1.mp e,decide_eq_true rfl]
 |false=>exact(decide_eq_false λq=>by rw[dH q,D1.mpr rfl]at e;cases e).symm
theorem lK (a b:Int):IY a b=decide (a=b):=rfl
end Mine
end
section
set_option backward.match.sparseCases false
open PySem PySem.W PyProof.Rows PySem.Calls
namespace Mine
noncomputable abbrev Ex:=PySem.Expr
noncomputable def GF:IS->PySem.Operator
 |.add=>.Add|.sub=>.Sub|.mul=>.Mult|.mod=>.Mod|.pow=>.Pow|.shl=>.LShift|.shr=>.RShift|.band=>.BitAnd|.fdiv=>.FloorDiv
noncomputable def M9:ij->PySem.CmpOp
 |.eq=>.Eq|.ne=>.NotEq|.lt=>.Lt|.le=>.LtE|.gt=>.Gt|.ge=>.GtE|.is=>.Is|.M6=>.IsNot|.iz=>.In|.R8=>.NotIn
noncomputable def C6 (kd:Kd) (csc:Scope):Kd:=λn=>(csc.names.map λ(p:Str×NameKind)=>if p.2 ==.free&&(kd p.1 == some .cell)then(p.1,NameKind.cell)else p).lookup n
noncomputable def I1:Ex->Bool
 |.Call (.Name id _) [] [] _=>id != "super"
 |_=>true
noncomputable def y4 (id:Str):Bool:=!(id ==("__debug__":Str))&&!(id ==("__classdict__":Str))
structure Et (T:i7) (OK:Str) (C:Addr):Prop where
 g:plainGet T.K C OK=true
 d:hasDictIn T.K C=true
 f:findIn T.K (.ref C) OK=some none
structure Bo (T:i7) (OK:Str) (C:Addr):Prop where
 s:findIn T.K (.ref C) "__setattr__"=some (some (.builtin "object.__setattr__"))
 o:plainOver T.K C=true
 t:takerIn T.K C OK=some none
 d:hasDictIn T.K C=true
noncomputable def T6 (k:NameKind):Bool:=k ==.local || k ==.cell || k ==.free
noncomputable def f6 {α:Type} (o:Option α) (f:α->Bool):Bool:=match o with
 |some a=>f a
 |none=>false
noncomputable def all2 {α β:Type} (f:α->β->Bool):List α->List β->Bool
 | [],[]=>true
 |a::as,b::bs=>f a b&&all2 f as bs
 |_,_=>false
theorem b7 {α:Type} {o:Option α} {f:α->Bool} {G:Prop} (h:f6 o f=true) (k:∀a,o=some a->f a=true->G):G:=by
 induction o with
 |none=>exact Bool.noConfusion h
 |some a=>exact k a rfl h
theorem a7 {a b:Bool} {G:Prop} (h:(a&&b)=true) (k:a=true->b=true->G):G:=by
 induction a with
 |false=>exact Bool.noConfusion h
 |true=>exact k rfl h
noncomputable def I3 {α β:Type} (f:α->Nat) (n:Nat) (g:(a:α)->f a=n->Option β) (a:α):Option β:=dite (f a=n) (g a) λJ=>none
theorem o2 {α β:Type} {f:α->Nat} {n:Nat} {g:(a:α)->f a=n->Option β} {a:α} {x:β} {G:Prop} (e:I3 f n g a=some x) (k:∀h,g a h=some x->G):G:=(inferInstance:Decidable (f a=n)).byCases (λh=>k h ((dif_pos h).symm.trans e)) λh=>ns ((dif_neg h).symm.trans e)
noncomputable def rk {α β:Type} (l:List α) (o:Option β):Option β:=List.casesOn l o λJ J=>none
theorem kI {α β:Type} {l:List α} {o:Option β} {x:β} {G:Prop} (e:rk l o=some x) (k:l=[]->o=some x->G):G:=by
 induction l with
 |nil=>exact k rfl e
 |cons=>exact ns e
noncomputable def ot {α β:Type} (l:Option α) (o:Option β):Option β:=Option.casesOn l o λJ=>none
theorem oq {α β:Type} {l:Option α} {o:Option β} {x:β} {G:Prop} (e:ot l o=some x) (k:l=none->o=some x->G):G:=by
 induction l with
 |none=>exact k rfl e
 |some=>exact ns e
noncomputable def y5:Ex->Option (Str×Pos):=I3 PySem.Expr.ctorIdx 23 λe h=>PySem.Expr.Name.elim e h λa p=>some (a,p)
noncomputable def hY:Ex->Option (Const×Nat×Pos):=I3 PySem.Expr.ctorIdx 19 λe h=>PySem.Expr.Constant.elim e h λa b p=>some (a,b,p)
noncomputable def Bj:Ex->Option (Ex×Operator×Ex×Pos):=I3 PySem.Expr.ctorIdx 2 λe h=>PySem.Expr.BinOp.elim e h λa o b p=>some (a,o,b,p)
noncomputable def Ba:Ex->Option (UnaryOp×Ex×Pos):=I3 PySem.Expr.ctorIdx 3 λe h=>PySem.Expr.UnaryOp.elim e h λo a p=>some (o,a,p)
noncomputable def mw:Ex->Option (BoolOp×List Ex×Pos):=I3 PySem.Expr.ctorIdx 0 λe h=>PySem.Expr.BoolOp.elim e h λo a p=>some (o,a,p)
noncomputable def Bg:Ex->Option (Ex×List CmpOp×List Ex×Pos):=I3 PySem.Expr.ctorIdx 15 λe h=>PySem.Expr.Compare.elim e h λl o a p=>some (l,o,a,p)
noncomputable def FG:Ex->Option (Ex×Ex×Ex×Pos):=I3 PySem.Expr.ctorIdx 5 λe h=>PySem.Expr.IfExp.elim e h λt b a p=>some (t,b,a,p)
noncomputable def H8:Ex->Option (Ex×List Ex×Pos):=I3 PySem.Expr.ctorIdx 16 λe h=>PySem.Expr.Call.elim e h λf a k p=>rk k (some (f,a,p))
noncomputable def X7:Ex->Option (Ex×Str×Pos):=I3 PySem.Expr.ctorIdx 20 λe h=>PySem.Expr.Attribute.elim e h λo a p=>some (o,a,p)
noncomputable def gZ:Ex->Option (Ex×Ex×Pos):=I3 PySem.Expr.ctorIdx 21 λe h=>PySem.Expr.Subscript.elim e h λo a p=>some (o,a,p)
noncomputable def pW:Ex->Option (Option Ex×Option Ex×Pos):=I3 PySem.Expr.ctorIdx 26 λe h=>PySem.Expr.Slice.elim e h λl a k p=>ot k (some (l,a,p))
noncomputable def mn:Ex->Option (List Ex×Pos):=I3 PySem.Expr.ctorIdx 24 λe h=>PySem.Expr.List.elim e h λa p=>some (a,p)
noncomputable def R3:Ex->Option (List Ex×Nat×Pos):=I3 PySem.Expr.ctorIdx 25 λe h=>PySem.Expr.Tuple.elim e h λa k p=>some (a,k,p)
noncomputable def mr:Ex->Option (List (Option Ex)×List Ex×Pos):=I3 PySem.Expr.ctorIdx 6 λe h=>PySem.Expr.Dict.elim e h λk a p=>some (k,a,p)
noncomputable def eM:Ex->Option (Ex×List Comprehension×Scope×Pos):=I3 PySem.Expr.ctorIdx 8 λe h=>PySem.Expr.ListComp.elim e h λa g c p=>some (a,g,c,p)
noncomputable def Bc:Ex->Option (PySem.Arguments×Ex×Scope×Pos):=I3 PySem.Expr.ctorIdx 4 λe h=>PySem.Expr.Lambda.elim e h λa b c p=>some (a,b,c,p)
noncomputable def EV:List Ex->Option (Option Ex)
 | []=>some none
 |c::l=>if l.isEmpty then some (some c)else none
theorem zS {l:List Ex} {c:Option Ex} (h:EV l=some c):l=c.toList:=by
 induction l with
 |nil=>cases h;rfl
 |cons a r=>induction r with
  |nil=>cases h;rfl
  |cons=>cases h
section
variable {e:Ex}
theorem q9 {q:Str×Pos} (h:y5 e=some q):e=.Name q.1 q.2:=o2 h λi z=>PySem.Expr.Name.elim (motive_1:=λe=>∀i,PySem.Expr.Name.elim (motive_1:=λJ=>Option (Str×Pos)) e i (λa p=>some (a,p))=some q->e=.Name q.1 q.2) e i (λa p J z=>(ON z:(a,p)=q)▸rfl) i z
theorem du {q:Const×Nat×Pos} (h:hY e=some q):e=.Constant q.1 q.2.1 q.2.2:=o2 h λi z=>PySem.Expr.Constant.elim (motive_1:=λe=>∀i,PySem.Expr.Constant.elim (motive_1:=λJ=>Option (Const×Nat×Pos)) e i (λa b p=>some (a,b,p))=some q->e=.Constant q.1 q.2.1 q.2.2) e i (λa b p J z=>(ON z:(a,b,p)=q)▸rfl) i z
theorem xt {q:Ex×Operator×Ex×Pos} (h:Bj e=some q):e=.BinOp q.1 q.2.1 q.2.2.1 q.2.2.2:=o2 h λi z=>PySem.Expr.BinOp.elim (motive_1:=λe=>∀i,PySem.Expr.BinOp.elim (motive_1:=λJ=>Option (Ex×Operator×Ex×Pos)) e i (λa o b p=>some (a,o,b,p))=some q->e=.BinOp q.1 q.2.1 q.2.2.1 q.2.2.2) e i (λa o b p J z=>(ON z:(a,o,b,p)=q)▸rfl) i z
theorem pT {q:UnaryOp×Ex×Pos} (h:Ba e=some q):e=.UnaryOp q.1 q.2.1 q.2.2:=o2 h λi z=>PySem.Expr.UnaryOp.elim (motive_1:=λe=>∀i,PySem.Expr.UnaryOp.elim (motive_1:=λJ=>Option (UnaryOp×Ex×Pos)) e i (λo a p=>some (o,a,p))=some q->e=.UnaryOp q.1 q.2.1 q.2.2) e i (λo a p J z=>(ON z:(o,a,p)=q)▸rfl) i z
theorem ia {q:BoolOp×List Ex×Pos} (h:mw e=some q):e=.BoolOp q.1 q.2.1 q.2.2:=o2 h λi z=>PySem.Expr.BoolOp.elim (motive_1:=λe=>∀i,PySem.Expr.BoolOp.elim (motive_1:=λJ=>Option (BoolOp×List Ex×Pos)) e i (λo a p=>some (o,a,p))=some q->e=.BoolOp q.1 q.2.1 q.2.2) e i (λo a p J z=>(ON z:(o,a,p)=q)▸rfl) i z
theorem xr {q:Ex×List CmpOp×List Ex×Pos} (h:Bg e=some q):e=.Compare q.1 q.2.1 q.2.2.1 q.2.2.2:=o2 h λi z=>PySem.Expr.Compare.elim (motive_1:=λe=>∀i,PySem.Expr.Compare.elim (motive_1:=λJ=>Option (Ex×List CmpOp×List Ex×Pos)) e i (λl o a p=>some (l,o,a,p))=some q->e=.Compare q.1 q.2.1 q.2.2.1 q.2.2.2) e i (λl o a p J z=>(ON z:(l,o,a,p)=q)▸rfl) i z
theorem Be {q:Ex×Ex×Ex×Pos} (h:FG e=some q):e=.IfExp q.1 q.2.1 q.2.2.1 q.2.2.2:=o2 h λi z=>PySem.Expr.IfExp.elim (motive_1:=λe=>∀i,PySem.Expr.IfExp.elim (motive_1:=λJ=>Option (Ex×Ex×Ex×Pos)) e i (λt b a p=>some (t,b,a,p))=some q->e=.IfExp q.1 q.2.1 q.2.2.1 q.2.2.2) e i (λt b a p J z=>(ON z:(t,b,a,p)=q)▸rfl) i z
theorem z9 {q:Ex×List Ex×Pos} (h:H8 e=some q):e=.Call q.1 q.2.1 [] q.2.2:=o2 h λi z=>PySem.Expr.Call.elim (motive_1:=λe=>∀i,PySem.Expr.Call.elim (motive_1:=λJ=>Option (Ex×List Ex×Pos)) e i (λf a k p=>rk k (some (f,a,p)))=some q->e=.Call q.1 q.2.1 [] q.2.2) e i (λf a k p J z=>kI z λy z=>by subst y;exact(ON z:(f,a,p)=q)▸rfl) i z
theorem L6 {q:Ex×Str×Pos} (h:X7 e=some q):e=.Attribute q.1 q.2.1 q.2.2:=o2 h λi z=>PySem.Expr.Attribute.elim (motive_1:=λe=>∀i,PySem.Expr.Attribute.elim (motive_1:=λJ=>Option (Ex×Str×Pos)) e i (λo a p=>some (o,a,p))=some q->e=.Attribute q.1 q.2.1 q.2.2) e i (λo a p J z=>(ON z:(o,a,p)=q)▸rfl) i z
theorem X5 {q:Ex×Ex×Pos} (h:gZ e=some q):e=.Subscript q.1 q.2.1 q.2.2:=o2 h λi z=>PySem.Expr.Subscript.elim (motive_1:=λe=>∀i,PySem.Expr.Subscript.elim (motive_1:=λJ=>Option (Ex×Ex×Pos)) e i (λo a p=>some (o,a,p))=some q->e=.Subscript q.1 q.2.1 q.2.2) e i (λo a p J z=>(ON z:(o,a,p)=q)▸rfl) i z
theorem pU {q:Option Ex×Option Ex×Pos} (h:pW e=some q):e=.Slice q.1 q.2.1 none q.2.2:=o2 h λi z=>PySem.Expr.Slice.elim (motive_1:=λe=>∀i,PySem.Expr.Slice.elim (motive_1:=λJ=>Option (Option Ex×Option Ex×Pos)) e i (λl a k p=>ot k (some (l,a,p)))=some q->e=.Slice q.1 q.2.1 none q.2.2) e i (λl a k p J z=>oq z λy z=>by subst y;exact(ON z:(l,a,p)=q)▸rfl) i z
theorem hJ {q:List Ex×Pos} (h:mn e=some q):e=.List q.1 q.2:=o2 h λi z=>PySem.Expr.List.elim (motive_1:=λe=>∀i,PySem.Expr.List.elim (motive_1:=λJ=>Option (List Ex×Pos)) e i (λa p=>some (a,p))=some q->e=.List q.1 q.2) e i (λa p J z=>(ON z:(a,p)=q)▸rfl) i z
theorem G9 {q:List Ex×Nat×Pos} (h:R3 e=some q):e=.Tuple q.1 q.2.1 q.2.2:=o2 h λi z=>PySem.Expr.Tuple.elim (motive_1:=λe=>∀i,PySem.Expr.Tuple.elim (motive_1:=λJ=>Option (List Ex×Nat×Pos)) e i (λa k p=>some (a,k,p))=some q->e=.Tuple q.1 q.2.1 q.2.2) e i (λa k p J z=>(ON z:(a,k,p)=q)▸rfl) i z
theorem hW {q:List (Option Ex)×List Ex×Pos} (h:mr e=some q):e=.Dict q.1 q.2.1 q.2.2:=o2 h λi z=>PySem.Expr.Dict.elim (motive_1:=λe=>∀i,PySem.Expr.Dict.elim (motive_1:=λJ=>Option (List (Option Ex)×List Ex×Pos)) e i (λk a p=>some (k,a,p))=some q->e=.Dict q.1 q.2.1 q.2.2) e i (λk a p J z=>(ON z:(k,a,p)=q)▸rfl) i z
theorem hZ {q:Ex×List Comprehension×Scope×Pos} (h:eM e=some q):e=.ListComp q.1 q.2.1 q.2.2.1 q.2.2.2:=o2 h λi z=>PySem.Expr.ListComp.elim (motive_1:=λe=>∀i,PySem.Expr.ListComp.elim (motive_1:=λJ=>Option (Ex×List Comprehension×Scope×Pos)) e i (λa g c p=>some (a,g,c,p))=some q->e=.ListComp q.1 q.2.1 q.2.2.1 q.2.2.2) e i (λa g c p J z=>(ON z:(a,g,c,p)=q)▸rfl) i z
theorem xn {q:PySem.Arguments×Ex×Scope×Pos} (h:Bc e=some q):e=.Lambda q.1 q.2.1 q.2.2.1 q.2.2.2:=o2 h λi z=>PySem.Expr.Lambda.elim (motive_1:=λe=>∀i,PySem.Expr.Lambda.elim (motive_1:=λJ=>Option (PySem.Arguments×Ex×Scope×Pos)) e i (λa b c p=>some (a,b,c,p))=some q->e=.Lambda q.1 q.2.1 q.2.2.1 q.2.2.2) e i (λa b c p J z=>(ON z:(a,b,c,p)=q)▸rfl) i z
end
noncomputable abbrev cp:PySem.Arguments:={posonlyargs:=[],args:=[],vararg:=none,kwonlyargs:=[],kw_defaults:=[],kwarg:=none,defaults:=[]}
noncomputable def kF (a:PySem.Arguments):Bool:=a.posonlyargs.isEmpty&&a.args.isEmpty&&a.vararg.isNone&&a.kwonlyargs.isEmpty&&a.kw_defaults.isEmpty&&a.kwarg.isNone&&a.defaults.isEmpty
noncomputable def DW (T:i7) (kd:Kd) (x:Nat) (id:Str):Bool:=decide (T.nm x=id)&&(y4 id&&(match d6 T.glob x with
 |some _=>decide (kd id=some .globalImplicit)
 |none=>f6 (kd id) T6))
noncomputable def Hg (v:V):Const->Bool
 |.none=>(F8 v).isSome
 |.bool b=>f6 (L5 v) λx=>decide (x=b)
 |.int b=>f6 (z5 v) λx=>decide (x=b)
 |.str b=>f6 (r6 v) λx=>decide (i3 x=b)&&t6 x
 |.bytes b=>f6 (H9 v) λx=>decide (b.map UInt8.toNat=x)
 |_=>false
noncomputable def gY (T:i7) (kd:Kd) (x:Nat) (id:Str):Bool:=decide (T.nm x=id)&&(decide (kd id=some .local)&&(d6 T.glob x).isNone)
noncomputable def Ic (T:i7) (kd:Kd) (xs:List Nat) (e:Ex):Bool:=match xs with
 | [x]=>f6 (y5 e) λq=>gY T kd x q.1
 | [x,y]=>f6 (R3 e) λq=>f6 (two1 q.1) λr=>f6 (y5 r.1) λa=>f6 (y5 r.2) λb=>gY T kd x a.1&&gY T kd y b.1
 |_=>false
noncomputable def uz (T:i7) (kd:Kd) (xs:List Nat) (sc:Scope):Bool:=decide (sc.kind=.function)&&(sc.names.all (λx=>!decide (x.2=.local)|| decide (sc.names.lookup x.1=some .local))&&(sc.names.all (λx=>!decide (x.2=.cell))&&
 (sc.names.all (λx=>!decide (x.2=.free)|| decide (kd x.1=some .cell))&&(sc.names.all (λp=>!decide (p.2=.local)||(decide (p.1= ".0")|| xs.any λx=>decide (T.nm x=p.1)))&&(T.lam (C6 kd sc)).isNone))))
noncomputable def AM (T:i7) (kd:Kd) (sc:Scope):Bool:=decide (sc.kind=.function)&&(!sc.isGenerator&&(!sc.isCoroutine&&(sc.names.all (λx=>!decide (x.2=.cell)&&!decide (x.2=.local))&&(sc.names.all (λx=>!decide (x.2=.free)|| decide (kd x.1=some .cell))&&(T.lam λn=>sc.names.lookup n).isNone))))
noncomputable def DV (f:X->Ex->Bool) (x:Option X) (e:Option Ex):Bool:=match x with
 |none=>e.isNone
 |some x=>f6 e (f x)
noncomputable def DU (f:X->Ex->Bool):List (X×X)->List (Option Ex)->List Ex->Bool
 | [],[],[]=>true
 |p::es,some k::ks,v::vs=>f p.1 k&&(f p.2 v&&DU f es ks vs)
 |_,_,_=>false
noncomputable def Ie (f:X->Ex->Bool):List (ij×X)->List CmpOp->List Ex->Bool
 | [],[],[]=>true
 |p::es,o::os,v::vs=>decide (M9 p.1=o)&&(f p.2 v&&Ie f es os vs)
 |_,_,_=>false
noncomputable def MN (kd:Kd) (id:Str) (s:String):Bool:=decide (id=s)&&decide (kd s=some .globalImplicit)
noncomputable def so (f:X->Ex->Bool) (kd:Kd) (src:mK) (it:List X) (e:Ex):Bool:=match src with
 |.val=>f6 (y0 it) λx=>f x e
 |.enum=>f6 (H8 e) λq=>f6 (y5 q.1) λr=>MN kd r.1 "enumerate" &&all2 f it q.2.1
 |.range=>f6 (H8 e) λq=>f6 (y5 q.1) λr=>MN kd r.1 "range" &&(Nat.ble it.length 3&&all2 f it q.2.1)
noncomputable def r4 (T:i7):Nat->Kd->X->Ex->Bool
 |0,_,_,_=>false
 |n+1,kd,x,e=>match x with
  |.lit v=>f6 (hY e) λq=>Hg v q.1
  |.OK x=>f6 (y5 e) λq=>DW T kd x q.1
  |.bin op l r=>f6 (Bj e) λq=>decide (GF op=q.2.1)&&(r4 T n kd l q.1&&r4 T n kd r q.2.2.1)
  |.not x=>f6 (Ba e) λq=>decide (q.1=.Not)&&r4 T n kd x q.2.1
  |.neg x=>f6 (Ba e) λq=>decide (q.1=.USub)&&r4 T n kd x q.2.1
  |.R5 xs=>f6 (mw e) λq=>decide (q.1=.And)&&all2 (r4 T n kd) xs q.2.1
  |.mN xs=>f6 (mw e) λq=>decide (q.1=.Or)&&all2 (r4 T n kd) xs q.2.1
  |.cmp l rs=>f6 (Bg e) λq=>r4 T n kd l q.1&&Ie (r4 T n kd) rs q.2.1 q.2.2.1
  |.ite t b f=>f6 (FG e) λq=>r4 T n kd t q.1&&(r4 T n kd b q.2.1&&r4 T n kd f q.2.2.1)
  |.call f xs=>f6 (H8 e) λq=>f6 (y5 q.1) λr=>r4 T n kd f (.Name r.1 r.2)&&(all2 (r4 T n kd) xs q.2.1&&Nat.ble xs.length 12)
  |.l5 o m xs=>f6 (H8 e) λq=>f6 (X7 q.1) λr=>decide (T.nm m=r.2.1)&&(r4 T n kd o r.1&&(all2 (r4 T n kd) xs q.2.1&&(I1 r.1&&((r.2.2.endLine == q.2.2.line)&&Nat.ble xs.length 12))))
  |.attr o a=>f6 (X7 e) λq=>decide (T.nm a=q.2.1)&&(r4 T n kd o q.1&&(I1 q.1&&T.AF.any λs=>decide (s=T.nm a)))
  |.sub o i=>f6 (gZ e) λq=>r4 T n kd o q.1&&r4 T n kd i q.2.1
  |.slice o lo hi=>f6 (gZ e) λq=>f6 (pW q.2.1) λr=>r4 T n kd o q.1&&(DV (r4 T n kd) lo r.1&&DV (r4 T n kd) hi r.2.1)
  |.list xs=>f6 (mn e) λq=>all2 (r4 T n kd) xs q.1
  |.Y5 xs=>f6 (mn e) λq=>all2 (r4 T n kd) xs q.1
  |.tuple xs=>f6 (R3 e) λq=>all2 (r4 T n kd) xs q.1
  |.dict kvs=>f6 (mr e) λq=>DU (r4 T n kd) kvs q.1 q.2.1&&Nat.ble kvs.length 15
  |.K3 kvs=>f6 (mr e) λq=>DU (r4 T n kd) kvs q.1 q.2.1&&Nat.ble kvs.length 15
  |.comp _ elt xs src it cond=>f6 (eM e) λq=>f6 (y0 q.2.1) λg=>f6 (EV g.ifs) λc=>decide (g.is_async=0)&&(so (r4 T n kd) kd src it g.iter&&(Ic T (C6 kd q.2.2.1) xs g.target&&
   (r4 T n (C6 kd q.2.2.1) elt q.1&&(DV (r4 T n (C6 kd q.2.2.1)) cond c&&uz T kd xs q.2.2.1))))
  |.A3 b=>f6 (H8 e) λq=>f6 (y5 q.1) λr=>f6 (y0 q.2.1) λa=>f6 (Bc a) λl=>(T.lam kd).isSome&&(decide (r.1=T.Q0)&&(kF l.1&&(decide (kd T.Q0=some .globalImplicit)&&(AM T kd l.2.2.1&&r4 T n (λn=>l.2.2.1.names.lookup n) b l.2.1))))
  |.l4 o=>f6 (H8 e) λq=>f6 (y5 q.1) λr=>f6 (y0 q.2.1) λa=>f6 (H8 a) λc=>f6 (X7 c.1) λd=>MN kd r.1 "sorted" &&(decide (d.2.1=("items":Str))&&(decide (c.2.1=[])&&(r4 T n kd o d.1&&(I1 d.1&&(d.2.2.endLine == c.2.2.line)))))
def Tr (T:i7) (kd:Kd) (x:X) (e:Ex):Prop:=∃n,r4 T (n+1) kd x e=true
end Mine
end
section
open PySem PySem.W PyProof.Rows PySem.Calls
namespace Mine
variable {T:i7} {kd:Kd} {n:Nat} {x:X}
section
variable {G:Ex->Prop} {e:Ex}
theorem Tr.of (h:r4 T n kd x e=true):Tr T kd x e:=by
 induction n with
 |zero=>exact Bool.noConfusion h
 |succ n=>exact⟨n,h⟩
inductive Z2 (T:i7) (kd:Kd):List X->List Ex->Prop
 |nil:Z2 T kd [] []
 |cons (x:X) (e:Ex) (xs:List X) (es:List Ex):Tr T kd x e->Z2 T kd xs es->Z2 T kd (x::xs) (e::es)
inductive FH (T:i7) (kd:Kd):List (ij×X)->List Ex->Prop
 |nil:FH T kd [] []
 |cons (q:ij×X) (e:Ex) (xs:List (ij×X)) (es:List Ex):Tr T kd q.2 e->FH T kd xs es->FH T kd (q::xs) (e::es)
inductive BD (T:i7) (kd:Kd):List (X×X)->List Ex->List Ex->Prop
 |nil:BD T kd [] [] []
 |cons (q:X×X) (k e:Ex) (xs:List (X×X)) (ks es:List Ex):Tr T kd q.1 k->Tr T kd q.2 e->BD T kd xs ks es->BD T kd (q::xs) (k::ks) (e::es)
inductive Bn (T:i7) (kd:Kd):Option X->Option Ex->Prop
 |none:Bn T kd none none
 |some (x:X) (e:Ex):Tr T kd x e->Bn T kd (some x) (some e)
theorem J9 {xs:List X} {es:List Ex} (h:all2 (r4 T n kd) xs es=true):Z2 T kd xs es:=by
 induction xs generalizing es with
 |nil=>induction es with
  |nil=>exact .nil
  |cons=>exact Bool.noConfusion h
 |cons x xs ih=>induction es with
  |nil=>exact Bool.noConfusion h
  |cons e es=>exact a7 h λh1 h2=>.cons x e xs es (.of h1) (ih h2)
theorem xU {xs:List (ij×X)} {os:List CmpOp} {es:List Ex} (h:Ie (r4 T n kd) xs os es=true):os=xs.map (λq=>M9 q.1)∧FH T kd xs es:=by
 induction xs generalizing os es with
 |nil=>induction os with
  |nil=>induction es with
   |nil=>exact⟨rfl,.nil⟩
   |cons=>exact Bool.noConfusion h
  |cons=>exact Bool.noConfusion h
 |cons x xs ih=>induction os with
  |nil=>exact Bool.noConfusion h
  |cons o os=>induction es with
   |nil=>exact Bool.noConfusion h
   |cons e es=>exact a7 h λh1 h=>a7 h λh2 h3=>⟨OP h1▸OY (_:: ·) (ih h3).1,.cons x e xs es (.of h2) (ih h3).2⟩
theorem xS {xs:List (X×X)} {os:List (Option Ex)} {es:List Ex} (h:DU (r4 T n kd) xs os es=true):∃ks,os=ks.map some∧BD T kd xs ks es:=by
 induction xs generalizing os es with
 |nil=>induction os with
  |nil=>induction es with
   |nil=>exact⟨[],rfl,.nil⟩
   |cons=>exact Bool.noConfusion h
  |cons=>exact Bool.noConfusion h
 |cons x xs ih=>induction os with
  |nil=>exact Bool.noConfusion h
  |cons o os=>induction o with
   |none=>exact Bool.noConfusion h
   |some o=>induction es with
    |nil=>exact Bool.noConfusion h
    |cons e es=>exact a7 h λh1 h=>a7 h λh2 h3=>(ih h3).elim λks q=>⟨o::ks,OY (_:: ·) q.1,.cons x o e xs ks es (.of h1) (.of h2) q.2⟩
theorem qx {x:Option X} {e:Option Ex} (h:DV (r4 T n kd) x e=true):Bn T kd x e:=by
 induction x with
 |none=>cases e with
  |none=>exact .none
  |some=>exact Bool.noConfusion h
 |some x=>exact b7 h λa q h=>q▸.some x a (.of h)
theorem Z2.len {xs:List X} {es:List Ex} (t:Z2 T kd xs es):es.length=xs.length:=by induction t with
 |nil=>rfl
 |cons _ _ _ _ _ _ ih=>exact OY (· +1) ih
@[elab_as_elim] theorem Tr.rD {v:V} (t:Tr T kd (.lit v) e) (k:∀c i p,Hg v c=true->G (.Constant c i p)):G e:=t.elim λn h=>b7 h λq e h=>by rw[du e];exact k _ _ _ h
@[elab_as_elim] theorem Tr.P5 {x:Nat} (t:Tr T kd (.OK x) e) (k:∀p,y4 (T.nm x)=true->(∀v,d6 T.glob x=some v->kd (T.nm x)=some .globalImplicit)->(d6 T.glob x=none->f6 (kd (T.nm x)) T6=true)->G (.Name (T.nm x) p)):G e:=
 t.elim λn h=>b7 h λq e h=>a7 h λh1 h=>a7 h λh2 h3=>by
  rw[q9 e]
  induction q with|mk id p=>
  obtain rfl:T.nm x=id:=OP h1
  refine k _ h2 (λv e=>?_) λe=>?_
  ·rw[e]at h3;exact OP h3
  ·rw[e]at h3;exact h3
@[elab_as_elim] theorem Tr.sv {op:IS} {l r:X} (t:Tr T kd (.bin op l r) e) (k:∀l' r' p,Tr T kd l l'->Tr T kd r r'->G (.BinOp l' (GF op) r' p)):G e:=t.elim λn h=>b7 h λq e h=>a7 h λh1 h=>a7 h λh2 h3=>by
 rw[xt e];rw[←OP h1];exact k _ _ _ (.of h2) (.of h3)
@[elab_as_elim] theorem Tr.rh (t:Tr T kd (.not x) e) (k:∀x' p,Tr T kd x x'->G (.UnaryOp .Not x' p)):G e:=t.elim λn h=>b7 h λq e h=>a7 h λh1 h=>by
 rw[pT e];rw[OP h1];exact k _ _ (.of h)
@[elab_as_elim] theorem Tr.rn (t:Tr T kd (.neg x) e) (k:∀x' p,Tr T kd x x'->G (.UnaryOp .USub x' p)):G e:=t.elim λn h=>b7 h λq e h=>a7 h λh1 h=>by
 rw[pT e];rw[OP h1];exact k _ _ (.of h)
@[elab_as_elim] theorem Tr.a7 {xs:List X} (t:Tr T kd (.R5 xs) e) (k:∀es p,Z2 T kd xs es->G (.BoolOp .And es p)):G e:=t.elim λn h=>b7 h λq e h=>Mine.a7 h λh1 h=>by
 rw[ia e];rw[OP h1];exact k _ _ (J9 h)
@[elab_as_elim] theorem Tr.i0 {xs:List X} (t:Tr T kd (.mN xs) e) (k:∀es p,Z2 T kd xs es->G (.BoolOp .Or es p)):G e:=t.elim λn h=>b7 h λq e h=>Mine.a7 h λh1 h=>by
 rw[ia e];rw[OP h1];exact k _ _ (J9 h)
@[elab_as_elim] theorem Tr.sk {rs:List (ij×X)} (t:Tr T kd (.cmp x rs) e) (k:∀l es p,Tr T kd x l->FH T kd rs es->G (.Compare l (rs.map λq=>M9 q.1) es p)):G e:=t.elim λn h=>b7 h λq e h=>Mine.a7 h λh1 h=>by
 rw[xr e];rw[(xU h).1];exact k _ _ _ (.of h1) (xU h).2
@[elab_as_elim] theorem Tr.gp {b f:X} (t:Tr T kd (.ite x b f) e) (k:∀t' b' f' p,Tr T kd x t'->Tr T kd b b'->Tr T kd f f'->G (.IfExp t' b' f' p)):G e:=t.elim λn h=>b7 h λq e h=>Mine.a7 h λh1 h=>Mine.a7 h λh2 h3=>by
 rw[Be e];exact k _ _ _ _ (.of h1) (.of h2) (.of h3)
@[elab_as_elim] theorem Tr.lO {xs:List X} (t:Tr T kd (.call x xs) e) (k:∀id q es p,Tr T kd x (.Name id q)->Z2 T kd xs es->xs.length≤12->G (.Call (.Name id q) es [] p)):G e:=t.elim λn h=>b7 h λq e h=>b7 h λr e2 h=>Mine.a7 h λh1 h=>Mine.a7 h λh2 h3=>by
 rw[z9 e];rw[q9 e2];exact k _ _ _ _ (.of h1) (J9 h2) (OO h3)
@[elab_as_elim] theorem Tr.kQ {m:Nat} {xs:List X} (t:Tr T kd (.l5 x m xs) e) (k:∀o q es p,Tr T kd x o->Z2 T kd xs es->I1 o=true->(q.endLine == p.line)=true->xs.length≤12->G (.Call (.Attribute o (T.nm m) q) es [] p)):G e:=
 t.elim λn h=>b7 h λq e h=>b7 h λr e2 h=>Mine.a7 h λh1 h=>Mine.a7 h λh2 h=>Mine.a7 h λh3 h=>Mine.a7 h λh4 h=>Mine.a7 h λh5 h6=>by
 rw[z9 e];rw[L6 e2,←OP h1];exact k _ _ _ _ (.of h2) (J9 h3) h4 h5 (OO h6)
@[elab_as_elim] theorem Tr.lW {a:Nat} (t:Tr T kd (.attr x a) e) (k:∀o p,Tr T kd x o->I1 o=true->T.nm a∈T.AF->G (.Attribute o (T.nm a) p)):G e:=t.elim λn h=>b7 h λq e h=>Mine.a7 h λh1 h=>Mine.a7 h λh2 h=>Mine.a7 h λh3 h4=>by
 rw[L6 e]
 rw[←OP h1]
 obtain⟨s,hs,es⟩:=List.any_eq_true.mp h4
 exact k _ _ (.of h2) h3 (OP es▸hs)
@[elab_as_elim] theorem Tr.qA {i:X} (t:Tr T kd (.sub x i) e) (k:∀o i' p,Tr T kd x o->Tr T kd i i'->G (.Subscript o i' p)):G e:=t.elim λn h=>b7 h λq e h=>Mine.a7 h λh1 h2=>by
 rw[X5 e];exact k _ _ _ (.of h1) (.of h2)
@[elab_as_elim] theorem Tr.fj {lo hi:Option X} (t:Tr T kd (.slice x lo hi) e) (k:∀o lo' hi' q p,Tr T kd x o->Bn T kd lo lo'->Bn T kd hi hi'->G (.Subscript o (.Slice lo' hi' none q) p)):G e:=t.elim λn h=>b7 h λq e h=>b7 h λr e2 h=>Mine.a7 h λh1 h=>Mine.a7 h λh2 h3=>by
 rw[X5 e];rw[pU e2];exact k _ _ _ _ _ (.of h1) (qx h2) (qx h3)
@[elab_as_elim] theorem Tr.kZ {xs:List X} (t:Tr T kd (.list xs) e) (k:∀es p,Z2 T kd xs es->G (.List es p)):G e:=t.elim λn h=>b7 h λq e h=>by rw[hJ e];exact k _ _ (J9 h)
@[elab_as_elim] theorem Tr.fG {xs:List X} (t:Tr T kd (.Y5 xs) e) (k:∀es p,Z2 T kd xs es->G (.List es p)):G e:=t.elim λn h=>b7 h λq e h=>by rw[hJ e];exact k _ _ (J9 h)
@[elab_as_elim] theorem Tr.eZ {xs:List X} (t:Tr T kd (.tuple xs) e) (k:∀es i p,Z2 T kd xs es->G (.Tuple es i p)):G e:=t.elim λn h=>b7 h λq e h=>by rw[G9 e];exact k _ _ _ (J9 h)
@[elab_as_elim] theorem Tr.lM {kvs:List (X×X)} (t:Tr T kd (.dict kvs) e) (k:∀ks es p,BD T kd kvs ks es->kvs.length≤15->G (.Dict (ks.map some) es p)):G e:=t.elim λn h=>b7 h λq e h=>Mine.a7 h λh1 h2=>by
 rw[hW e];obtain⟨ks,e2,t⟩:=xS h1;rw[e2];exact k _ _ _ t (OO h2)
@[elab_as_elim] theorem Tr.fH {kvs:List (X×X)} (t:Tr T kd (.K3 kvs) e) (k:∀ks es p,BD T kd kvs ks es->kvs.length≤15->G (.Dict (ks.map some) es p)):G e:=t.elim λn h=>b7 h λq e h=>Mine.a7 h λh1 h2=>by
 rw[hW e];obtain⟨ks,e2,t⟩:=xS h1;rw[e2];exact k _ _ _ t (OO h2)
inductive qe (T:i7) (kd:Kd):List Nat->Ex->Prop
 |one (x:Nat) (p:Pos):kd (T.nm x)=some .local->d6 T.glob x=none->qe T kd [x] (.Name (T.nm x) p)
 |two (x y:Nat) (p q:Pos) (i:Nat) (r:Pos):kd (T.nm x)=some .local->d6 T.glob x=none->kd (T.nm y)=some .local->d6 T.glob y=none->qe T kd [x,y] (.Tuple [.Name (T.nm x) p,.Name (T.nm y) q] i r)
theorem ku {kd:Kd} {x:Nat} {q:Str×Pos} {G:Str->Prop} (h:gY T kd x q.1=true) (k:kd (T.nm x)=some .local->d6 T.glob x=none->G (T.nm x)):G q.1:=
 Mine.a7 h λh1 h=>Mine.a7 h λh2 h3=>by rw[←OP h1]at h2⊢;exact k (OP h2) (Option.isNone_iff_eq_none.mp h3)
theorem xR {xs:List Nat} {e:Ex} (h:Ic T kd xs e=true):qe T kd xs e:=by
 induction xs with
 |nil=>exact Bool.noConfusion h
 |cons x xs=>induction xs with
  |nil=>exact b7 h λq e h=>by rw[q9 e];exact ku (G:=λs=>qe T kd [x] (.Name s q.2)) h λh1 h2=>.one x q.2 h1 h2
  |cons y xs=>induction xs with
   |nil=>exact b7 h λq e h=>b7 h λr e2 h=>b7 h λa ea h=>b7 h λb eb h=>Mine.a7 h λh1 h2=>(by
    rw[G9 e,two1_eq e2,q9 ea,q9 eb]
    exact ku (G:=λs=>qe T kd [x,y] (.Tuple [.Name s a.2,.Name b.1 b.2] q.2.1 q.2.2)) h1 λk1 k2=>ku (G:=λs=>qe T kd [x,y] (.Tuple [.Name _ a.2,.Name s b.2] q.2.1 q.2.2)) h2 λk3 k4=>.two x y a.2 b.2 _ _ k1 k2 k3 k4)
   |cons=>exact Bool.noConfusion h
inductive bJ (T:i7) (kd:Kd):mK->List X->Ex->Prop
 |val (x:X) (e:Ex):Tr T kd x e->bJ T kd .val [x] e
 |enum (xs:List X) (es:List Ex) (q p:Pos):kd "enumerate"=some .globalImplicit->Z2 T kd xs es->bJ T kd .enum xs (.Call (.Name "enumerate" q) es [] p)
 |range (xs:List X) (es:List Ex) (q p:Pos):kd "range"=some .globalImplicit->Z2 T kd xs es->xs.length≤3->bJ T kd .range xs (.Call (.Name "range" q) es [] p)
theorem nk {src:mK} {it:List X} {e:Ex} (h:so (r4 T n kd) kd src it e=true):bJ T kd src it e:=by
 induction src with
 |val=>exact b7 h λx e h=>B3 e▸.val x _ (.of h)
 |enum=>exact b7 h λq e h=>b7 h λr e2 h=>Mine.a7 h λh1 h2=>Mine.a7 h1 λh1 h3=>by rw[z9 e];rw[q9 e2,OP h1];exact .enum _ _ _ _ (OP h3) (J9 h2)
 |range=>exact b7 h λq e h=>b7 h λr e2 h=>Mine.a7 h λh1 h=>Mine.a7 h λh4 h2=>Mine.a7 h1 λh1 h3=>by rw[z9 e];rw[q9 e2,OP h1];exact .range _ _ _ _ (OP h3) (J9 h2) (OO h4)
structure cR (T:i7) (kd:Kd) (xs:List Nat) (sc:Scope):Prop where
 kind:sc.kind=.function
 locals:∀x∈sc.names,x.2=.local->sc.names.lookup x.1=some .local
 cell:∀x∈sc.names,x.2≠.cell
 free:∀x∈sc.names,x.2=.free->kd x.1=some .cell
 own:∀p∈sc.names,p.2=.local->p.1= ".0"∨∃x,x∈xs∧T.nm x=p.1
 lam:T.lam (C6 kd sc)=none
structure qi (T:i7) (kd:Kd) (sc:Scope):Prop where
 kind:sc.kind=.function
 gen:sc.isGenerator=false
 co:sc.isCoroutine=false
 cell:∀x∈sc.names,x.2≠.cell
 loc:∀x∈sc.names,x.2≠.local
 free:∀x∈sc.names,x.2=.free->kd x.1=some .cell
 lam:T.lam (λn=>sc.names.lookup n)=none
theorem rH {p q:Prop} {_:Decidable p} {_:Decidable q} (h:(!decide p || decide q)=true) (k:p):q:=by rw[decide_eq_true k]at h;exact OP h
theorem kE {p:Prop} {_:Decidable p} (h:(!decide p)=true):¬p:=λk=>by rw[decide_eq_true k]at h;exact Bool.noConfusion h
theorem wK {xs:List Nat} {sc:Scope} (h:uz T kd xs sc=true):cR T kd xs sc:=
 Mine.a7 h λh1 h=>Mine.a7 h λh2 h=>Mine.a7 h λh3 h=>Mine.a7 h λh4 h=>Mine.a7 h λh5 h6=>
 ⟨OP h1,λx hx=>rH (List.all_eq_true.mp h2 x hx),λx hx=>kE (List.all_eq_true.mp h3 x hx),λx hx=>rH (List.all_eq_true.mp h4 x hx),λp hp k=>by
  have:=List.all_eq_true.mp h5 p hp
  rw[decide_eq_true k]at this
  have this:(decide (p.1=Str.ofString ".0")|| xs.any λx=>decide (T.nm x=p.1))=true:=this
  exact(Bool.or_eq_true_iff.mp this).imp OP λq=>(List.any_eq_true.mp q).imp λx q=>⟨q.1,OP q.2⟩,Option.isNone_iff_eq_none.mp h6⟩
theorem zx {sc:Scope} (h:AM T kd sc=true):qi T kd sc:=
 Mine.a7 h λh1 h=>Mine.a7 h λh2 h=>Mine.a7 h λh3 h=>Mine.a7 h λh4 h=>Mine.a7 h λh5 h6=>
 ⟨OP h1,Bool.not_eq_true' _ |>.mp h2,Bool.not_eq_true' _ |>.mp h3,λx hx=>Mine.a7 (List.all_eq_true.mp h4 x hx) λa J=>kE a,λx hx=>Mine.a7 (List.all_eq_true.mp h4 x hx) λJ a=>kE a,λx hx=>rH (List.all_eq_true.mp h5 x hx),Option.isNone_iff_eq_none.mp h6⟩
theorem DS (g:Comprehension):g=⟨g.target,g.iter,g.ifs,g.is_async⟩:=by cases g;rfl
@[elab_as_elim] theorem Tr.eG {pp:Bool} {elt:X} {xs:List Nat} {src:mK} {it:List X} {cond:Option X} (t:Tr T kd (.comp pp elt xs src it cond) e) (k:∀elt' tgt it' cond' sc p,bJ T kd src it it'->qe T (C6 kd sc) xs tgt->Tr T (C6 kd sc) elt elt'->Bn T (C6 kd sc) cond cond'->cR T kd xs sc->
 G (.ListComp elt' [⟨tgt,it',Option.toList cond',0⟩] sc p)):G e:=
 t.elim λn h=>b7 h λq e h=>b7 h λg e2 h=>b7 h λc e3 h=>Mine.a7 h λh0 h=>Mine.a7 h λh1 h=>Mine.a7 h λh2 h=>Mine.a7 h λh3 h=>Mine.a7 h λh4 h5=>by
  rw[hZ e]
  rw[B3 e2]
  have eg:g=⟨g.target,g.iter,c.toList,0⟩:=(DS g).trans (by rw[zS e3,OP h0])
  rw[eg]
  exact k _ _ _ _ _ _ (nk h1) (xR h2) (.of h3) (qx h4) (wK h5)
theorem ri {a:PySem.Arguments} (h:kF a=true):a=cp:=by
 cases a
 simp only[kF,Bool.and_eq_true,List.isEmpty_iff,Option.isNone_iff_eq_none]at h
 obtain⟨⟨⟨⟨⟨⟨rfl,rfl⟩,rfl⟩,rfl⟩,rfl⟩,rfl⟩,rfl⟩:=h
 rfl
@[elab_as_elim] theorem Tr.gB (t:Tr T kd (.A3 x) e) (k:∀b sc Pt lp q p,T.lam kd=some Pt->kd T.Q0=some .globalImplicit->qi T kd sc->Tr T (λn=>sc.names.lookup n) x b->G (.Call (.Name T.Q0 q) [.Lambda cp b sc lp] [] p)):G e:=
 t.elim λn h=>b7 h λq e h=>b7 h λr e2 h=>b7 h λa e3 h=>b7 h λl e4 h=>Mine.a7 h λh0 h=>Mine.a7 h λh1 h=>Mine.a7 h λh2 h=>Mine.a7 h λh3 h=>Mine.a7 h λh4 h5=>by
  rw[z9 e]
  obtain⟨Pt,hP⟩:=Option.isSome_iff_exists.mp h0
  rw[q9 e2,OP h1,B3 e3,xn e4,ri h2]
  exact k _ _ Pt _ _ _ hP (OP h3) (zx h4) (.of h5)
@[elab_as_elim] theorem Tr.bX (t:Tr T kd (.l4 x) e) (k:∀o q1 q2 q3 p,kd "sorted"=some .globalImplicit->Tr T kd x o->I1 o=true->(q2.endLine == q3.line)=true->G (.Call (.Name "sorted" q1) [.Call (.Attribute o "items" q2) [] [] q3] [] p)):G e:=
 t.elim λn h=>b7 h λq e h=>b7 h λr e2 h=>b7 h λa e3 h=>b7 h λc e4 h=>b7 h λd e5 h=>Mine.a7 h λh0 h=>Mine.a7 h λh1 h=>Mine.a7 h λh2 h=>Mine.a7 h λh3 h=>Mine.a7 h λh4 h5=>Mine.a7 h0 λk1 k2=>by
  rw[z9 e]
  rw[q9 e2,OP k1,B3 e3,z9 e4,L6 e5,OP h1,OP h2]
  exact k _ _ _ _ _ (OP k2) (.of h3) h4 h5
theorem Tr.all (t:Tr T kd x e) (hn:∀id p,G (.Name id p)) (hc:∀c k p,G (.Constant c k p)) (hb:∀a o b p,G (.BinOp a o b p)) (hu:∀o a p,G (.UnaryOp o a p)) (ho:∀o a p,G (.BoolOp o a p)) (hm:∀l os es p,G (.Compare l os es p)) (hi:∀t b e p,G (.IfExp t b e p))
 (hf:∀f es p,G (.Call f es [] p)) (ha:∀o a p,G (.Attribute o a p)) (hs:∀o a p,G (.Subscript o a p)) (hl:∀es p,G (.List es p)) (ht:∀es i p,G (.Tuple es i p)) (hd:∀ks vs p,G (.Dict ks vs p)) (hp:∀e g sc p,G (.ListComp e g sc p)):G e:=by
 cases x with
 |lit=>exact t.rD λJ J J J=>hc _ _ _
 |OK=>exact t.P5 λJ J J J=>hn _ _
 |bin=>exact t.sv λJ J J J J=>hb _ _ _ _
 |not=>exact t.rh λJ J J=>hu _ _ _
 |neg=>exact t.rn λJ J J=>hu _ _ _
 |R5=>exact t.a7 λJ J J=>ho _ _ _
 |mN=>exact t.i0 λJ J J=>ho _ _ _
 |cmp=>exact t.sk λJ J J J J=>hm _ _ _ _
 |ite=>exact t.gp λJ J J J J J J=>hi _ _ _ _
 |call=>exact t.lO λJ J J J J J J=>hf _ _ _
 |l5=>exact t.kQ λJ J J J J J J J J=>hf _ _ _
 |attr=>exact t.lW λJ J J J J=>ha _ _ _
 |sub=>exact t.qA λJ J J J J=>hs _ _ _
 |slice=>exact t.fj λJ J J J J J J J=>hs _ _ _
 |list=>exact t.kZ λJ J J=>hl _ _
 |Y5=>exact t.fG λJ J J=>hl _ _
 |tuple=>exact t.eZ λJ J J J=>ht _ _ _
 |dict=>exact t.lM λJ J J J J=>hd _ _ _
 |K3=>exact t.fH λJ J J J J=>hd _ _ _
 |comp=>exact t.eG λJ J J J J J J J J J J=>hp _ _ _ _
 |A3=>exact t.gB λJ J J J J J J J J J=>hf _ _ _
 |l4=>exact t.bX λJ J J J J J J J J=>hf _ _ _
end
inductive FV (T:i7) (W:r9) (U:List Addr) (h:Heap) (own:List (Nat×Addr)) (x:Nat):V->Value->Prop
 |ml (xs:List V) (ws:List Value) (a:Addr):(x,a)∈own->R6 h a ws->E4 T W U h xs ws->FV T W U h own x (.g6 xs) (.ref a)
 |md (kvs:List (Txt×V)) (a:Addr):(x,a)∈own->V1 T U (k9 T W U) h kvs a->FV T W U h own x (.E2 kvs) (.ref a)
 |mo (c:Nat) (at_:Fr) (C a dx:Addr) (kws:List (Str×Value)):(x,a)∈own->(x,dx)∈own->T.cls c=some C->h.get? a=some ⟨.ref C,some dx,.plain,#[]⟩->h.DictOf (strKind T.prog T.w) dx kws->J8 T U (k9 T W U) h T.nm at_ kws->FV T W U h own x (.cu c at_) (.ref a)
 |pl (v:V) (w:Value):solid v=true->eP T W U h v w->FV T W U h own x v w
inductive n7 (W:r9) (env:Env) (h:Heap) (y:Str) (w:Value):Prop
 |loc (f:Str->Option Value) (k:env.kindOf y=some .local) (n:h.Ns env.locals f) (e:f y=some w)
 |P0 (c:Addr) (k:env.kindOf y=some .cell∨env.kindOf y=some .free) (hc:env.cells.lookup y=some c) (o:c∈W.own) (i:h.IsCell c (some w))
inductive aD (W:r9) (env:Env) (h:Heap) (y:Str):Prop
 |mk (c:Addr) (v:Option Value) (hc:env.cells.lookup y=some c) (o:c∈W.own) (i:h.IsCell c v)
inductive En (T:i7) (env:Env) (Pt:Addr):Prop
 |mk (c:Addr) (t:Pt∈T.tabs) (q:T.zA Pt=env.qual++("<lambda>":Str)) (e:env.code=.ref c) (hd:CodeHd T.B c Pt)
structure G2 (T:i7) (W:r9) (U:List Addr) (env:Env) (own:List (Nat×Addr)) (m:Fr) (h:Heap):Prop where
 kind:env.scope.kind=.function
 glob:env.globals=mainGlobals
 blt:env.builtins=builtinsNs
 Y0:env.locals∈W.l6
 loc:∀x v,d6 m x=some v->d6 T.glob x=none
 ns:∃f,h.Ns env.locals f
 var:∀x v,d6 m x=some v->f6 (env.kindOf (T.nm x)) T6=true->∃w,n7 W env h (T.nm x) w∧FV T W U h own x v w
 has:∀y,env.kindOf y=some .cell->aD W env h y
 own:∀x a,(x,a)∈own->a∈W.own
 code:∀Pt,T.lam env.kindOf=some Pt->En T env Pt
inductive LF (T:i7) (W:r9) (A:Around) (h:Heap):Prop
 |mk (fs:List Env) (e:A.frames=some fs) (f:h.FunFrames T.B fs) (w:∀env∈fs,∀L,env.frame=some L->L∈W.l6)
structure Ar (T:i7) (W:r9) (A:Around) (n:Nat) (h:Heap):Prop where
 handled:A.handled=none
 depth:A.depth+2 * n≤900
 units:A.units+20 * n≤9000
 frames:LF T W A h
theorem M3 {a k c n m:Nat} (h:a+c * (n+1)≤m) (hk:k≤c):a+k+c * n≤m:=OV (by rw[Nat.add_assoc,Nat.add_comm k];exact Pa (Pa hk _) a) h
theorem bZ {a k c n m:Nat} (h:a+c * (n+1)≤m) (hk:k≤c):a+k≤m:=OV (Pa (OV hk (Nat.le_add_left c (c * n))) a) h
noncomputable def made:V->Bool
 |.g6 _=>true
 |.E2 _=>true
 |_=>false
inductive M0 (T:i7) (W:r9) (U:List Addr) (h:Heap) (a:Addr):V->Prop
 |l (xs:List V) (ws:List Value):R6 h a ws->E4 T W U h xs ws->M0 T W U h a (.g6 xs)
 |d (kvs:List (Txt×V)):V1 T U (k9 T W U) h kvs a->M0 T W U h a (.E2 kvs)
inductive bK (T:i7) (W:r9) (s:Shared) (d7:List Addr) (c7:Hp) (h':Heap) (v:V):Value->Prop
 |mk (a:Addr) (W':r9) (n:s.heap.get? a=none) (g:s8 s W W') (o:a∈W'.own) (r:d9 T W' d7 c7 h') (q:M0 T W' d7 h' a v):bK T W s d7 c7 h' v (.ref a)
def G1 (T:i7) (W:r9) (s:Shared) (d7:List Addr) (c7:Hp) (h':Heap) (v:V) (w:Value):Prop:=made v=true->bK T W s d7 c7 h' v w
def KV (T:i7) (W:r9) (U:List Addr) (s:Shared) (Q:Value->Shared->Prop) (v:V) (c7:Hp):Prop:=
 ∀w s' d7,i4 T W U s c7 d7 s'->C5 T W d7 s'.heap v w->G1 T W s d7 c7 s'.heap v w->Q w s'
inductive mH (W:r9) (s:Shared) (h':Heap) (ea:Addr):Option Value->Prop
 |none:mH W s h' ea (some .none)
 |some (tt:Addr) (oT:Obj) (ts:Array Value):tt∈W.own->tt≠ea->s.heap.get? tt=none->h'.get? tt=some oT->oT.data=.fields ts->ts[3]? =some .none->mH W s h' ea (some (.ref tt))
inductive sN (T:i7) (W:r9) (s:Shared) (d7:List Addr) (c7:Hp) (h':Heap) (t:Txt):Value->Prop
 |mk (ea dx:Addr) (W':r9) (oe:Obj) (vs:Array Value) (kws:List (Str×Value)) (k:Tok) (g:s8 s W W') (r:d9 T W' d7 c7 h') (ho:ea∈W'.own) (hn:s.heap.get? ea=none) (dh:dx∈W'.own) (dn:s.heap.get? dx=none) (asc:t6 t=true)
  (e:h'.get? ea=some oe) (ec:oe.cls=.ref T.exc) (ed:oe.dict=some dx) (ef:oe.data=.fields vs) (hd:h'.DictOf (strKind T.prog T.w) dx kws) (hv:valueAt kws T.why=some (.str (i3 t) k)) (tb:mH W' s h' ea vs[1]?):sN T W s d7 c7 h' t (.ref ea)
def XV (T:i7) (W:r9) (U:List Addr) (s:Shared) (E:Value->Shared->Prop) (t:Txt) (c7:Hp):Prop:=
 ∀e s' d7,i4 T W U s c7 d7 s'->sN T W s d7 c7 s'.heap t e->E e s'
structure Cx (T:i7) (W:r9) (n:Nat) (A:Around) (env:Env) (own:List (Nat×Addr)) (m:Fr) (U:List Addr) (Y:Hp) (s:Shared):Prop where
 rel:d9 T W U Y s.heap
 fr:G2 T W U env own m s.heap
 ar:Ar T W A n s.heap
def g7 (T:i7) (n:Nat) (run:Fr->X->Hp->R V):Prop:=
 ∀{W:r9} {A:Around} {env:Env} {own:List (Nat×Addr)} {m:Fr} {U:List Addr} {Y:Hp} {s:Shared} {e:X} {e':Ex} {Q E:Value->Shared->Prop},
  Cx T W n A env own m U Y s->Tr T env.kindOf e e'->(run m e Y).c4 (KV T W U s Q) (XV T W U s E)->wpAny (model T.prog T.w) A (eval e' env) Q E s
def KT (T:i7) (W:r9) (U:List Addr) (s:Shared) (Q:Bool->Shared->Prop) (b:Bool) (c7:Hp):Prop:=∀s' d7,i4 T W U s c7 d7 s'->Q b s'
def D8 (T:i7) (n:Nat) (run:Fr->X->Hp->R Bool):Prop:=
 ∀{W:r9} {A:Around} {env:Env} {own:List (Nat×Addr)} {m:Fr} {U:List Addr} {Y:Hp} {s:Shared} {e:X} {e':Ex} {Q:Bool->Shared->Prop} {E:Value->Shared->Prop},
  Cx T W n A env own m U Y s->Tr T env.kindOf e e'->(run m e Y).c4 (KT T W U s Q) (XV T W U s E)->wpAny (model T.prog T.w) A (isTrue e' env (eval e' env)) Q E s
variable {W W':r9} {U d7:List Addr} {s s':Shared} {Y c7:Hp} {A:Around} {env:Env} {own:List (Nat×Addr)} {m:Fr} {h h':Heap} {r:Ev}
section
variable {aE:List Addr} {s'':Shared} {u3:Hp} {S:Addr->Prop}
theorem V1.at {kvs:List (Txt×V)} {a:Addr} {bad bad':Addr->Prop} (q:V1 T U bad h kvs a) (m:Ms U d7 bad bad' S h h') (k:At a h h'):V1 T d7 bad' h' kvs a:=match q with|⟨kws,hd,s,e,r⟩=>⟨kws,B7 hd k,s,e,r.ms m⟩
theorem V1.Bt {kvs:List (Txt×V)} {a:Addr} {bad:Addr->Prop} {G:Prop} (q:V1 T U bad h kvs a) (k:∀kws,h.DictOf (strKind T.prog T.w) a kws->(a == sysModules)=false->J8 T U bad h i3 kvs kws->G):G:=match q with|⟨kws,hd,s,e,r⟩=>k kws hd s ⟨e,r⟩
theorem FV.mv {x:Nat} {v:V} {w:Value} (f:FV T W U h own x v w) (m:Ms U d7 (k9 T W U) (k9 T W' d7) S h h') (k:∀a,(x,a)∈own->At a h h'):FV T W' d7 h' own x v w:=by
 induction f with
 |ml xs ws a o l r=>exact .ml xs ws a o (l.at (k a o)) (r.ms m)
 |md kvs a o q=>exact .md kvs a o (q.at m (k a o))
 |mo c at_ C a dx kws o o' hc ha hd r=>exact .mo c at_ C a dx kws o o' hc (k a o _ ha) (B7 hd (k dx o')) (r.ms m)
 |pl v w g r=>exact .pl v w g (r.ms m)
theorem T1 {L:Addr} {f:Str->Option Value} (x:h.Ns L f) (k:∀o,h.get? L=some o->∃sl,h'.get? L=some {o with slots:=sl}):h'.Ns L f:=match x with
 |⟨o,es,ep,e,d,r⟩=>(k o e).elim λJ e'=>⟨_,es,ep,e',d,r⟩
theorem n7.mv {y:Str} {w:Value} (x:n7 W env h y w) (i:∀a,a∈W.own->a∈W'.own) (k:∀f,h.Ns env.locals f->h'.Ns env.locals f) (o:∀a,a∈W.own->At a h h'):n7 W' env h' y w:=by
 induction x with
 |loc f k1 n e=>exact .loc f k1 (k f n) e
 |P0 c k1 hc ho i1=>exact .P0 c k1 hc (i c ho) (D5 i1 (o c ho))
theorem G2.mv (c:G2 T W U env own m h) (ms:Ms U d7 (k9 T W U) (k9 T W' d7) S h h') (i:∀a,a∈W.own->a∈W'.own) (f:∀a,a∈W.l6->a∈W'.l6) (k:∀f,h.Ns env.locals f->h'.Ns env.locals f) (o:∀a,a∈W.own->At a h h'):G2 T W' d7 env own m h' where
 kind:=c.kind
 glob:=c.glob
 blt:=c.blt
 Y0:=f _ c.Y0
 loc:=c.loc
 ns:=c.ns.elim λf n=>⟨f,k f n⟩
 var:=λx v e q=>(c.var x v e q).elim λw z=>⟨w,z.1.mv i k o,z.2.mv ms λa ha=>o a (c.own x a ha)⟩
 has:=λy q=>match c.has y q with|⟨ca,v,hc,ho,hi⟩=>⟨ca,v,hc,i ca ho,D5 hi (o ca ho)⟩
 own:=λx a q=>i a (c.own x a q)
 code:=c.code
theorem Q3 {B:Heap} {fs:List Env} (x:Off S h h') (hf:h.FunFrames B fs) (hs:∀env∈fs,∀L,env.frame=some L->S L->∀o,h.get? L=some o->(∀vs,o.data≠.fields vs)->∃o',h'.get? L=some o'∧∀vs,o'.data≠.fields vs):h'.FunFrames B fs:=by
 induction fs with
 |nil=>trivial
 |cons e r ih=>
  obtain⟨hk,⟨L,o,h1,hn,ho,hd⟩,hr⟩:=hf
  refine⟨hk,?_,ih hr λe he=>hs e (.tail _ he)⟩
  by_cases hS:S L
  ·exact(hs e (.head _) L h1 hS o ho hd).elim λo' q=>⟨L,o',h1,hn,q.1,q.2⟩
  ·exact⟨L,o,h1,hn,x L o ho hS,hd⟩
theorem Ar.mv (a:Ar T W A n h) (f:∀a,a∈W.l6->a∈W'.l6) (x:Off S h h') (k:∀a,a∈W.l6->S a->∀o,h.get? a=some o->(∀vs,o.data≠.fields vs)->∃o',h'.get? a=some o'∧∀vs,o'.data≠.fields vs):Ar T W' A n h' where
 handled:=a.handled
 depth:=a.depth
 units:=a.units
 frames:=match a.frames with|⟨fs,e,q,w⟩=>⟨fs,e,Q3 x q λenv he L hL=>k L (w env he L hL),λenv he L hL=>f L (w env he L hL)⟩
theorem V2.ownAt (x:V2 T W U d7 s s') (k:BC T W U s.heap) {a:Addr} (ha:a∈W.own):At a s.heap s'.heap:=x.off.at (k.own a ha).nm
theorem Cx.grow (c:Cx T W n A env own m U Y s) (x:i4 T W U s c7 d7 s') (g:s8 s W W') (hr:d9 T W' d7 c7 s'.heap):Cx T W' n A env own m d7 c7 s':=
 ⟨hr,c.fr.mv ⟨x.ext.pre,x.ext.off,x.ext.ms.sb,λa o e q=>x.ext.bE e (g.v5.back e q)⟩ g.own (λa q=>g.l6▸q) (λf n=>T1 n (x.ext.slots _ c.fr.Y0)) λa ha=>x.ext.ownAt c.rel.o5 ha,
  c.ar.mv (λa q=>g.l6▸q) x.ext.off λa ha J o e d=>(x.ext.slots a ha o e).elim λsl e'=>⟨_,e',d⟩⟩
theorem Cx.mv (c:Cx T W n A env own m U Y s) (x:i4 T W U s c7 d7 s'):Cx T W n A env own m d7 c7 s':=c.grow x s8.refl x.rel
theorem Cx.le {k:Nat} (c:Cx T W n A env own m U Y s) (h:k≤n):Cx T W k A env own m U Y s:=
 ⟨c.rel,c.fr,⟨c.ar.handled,OV (Pa (Nat.mul_le_mul_left 2 h) _) c.ar.depth,OV (Pa (Nat.mul_le_mul_left 20 h) _) c.ar.units,c.ar.frames⟩⟩
theorem Cx.low (c:Cx T W (n+1) A env own m U Y s):Cx T W n A env own m U Y s:=c.le (Nat.le_succ n)
theorem bK.step (x:V2 T W U d7 s s') {o7:List Addr} {n9:Hp} {r3:Heap} {v:V} {w:Value} (f:bK T W s' o7 n9 r3 v w):bK T W s o7 n9 r3 v w:=match f with|⟨a,W',n,g,o,r,q⟩=>⟨a,W',x.since n,g.since x,o,r,q⟩
theorem KV.step {Q:Value->Shared->Prop} {v:V} {n9:Hp} (x:i4 T W U s c7 d7 s') (h:KV T W U s Q v n9):KV T W d7 s' Q v n9:=λw l3 o7 o r f=>h w l3 o7 (x.trans o) r λq=>(f q).step x.ext
theorem mH.since {ea:Addr} {x:Option Value} (k:∀a,s'.heap.get? a=Option.none->s.heap.get? a=Option.none) (t:mH W s' h' ea x):mH W s h' ea x:=by
 induction t with
 |none=>exact .none
 |some tt oT ts o ne n e d z=>exact .some tt oT ts o ne (k tt n) e d z
theorem sN.Ml (kk:∀a,s'.heap.get? a=Option.none->s.heap.get? a=Option.none) (g:s8 s W W') {o7:List Addr} {n9:Hp} {r3:Heap} {t:Txt} {e:Value} (h:sN T W' s' o7 n9 r3 t e):sN T W s o7 n9 r3 t e:=by
 induction h with
 |mk ea dx W2 oe vs kws k g' r ho hn d_ dn asc e ec ed ef hd hv tb=>exact .mk ea dx W2 oe vs kws k (g.trans ⟨g'.l6,g'.own,λa h=>(g'.C1 a h).imp id (kk a)⟩) r ho (kk _ hn) d_ (kk _ dn) asc e ec ed ef hd hv (tb.since kk)
theorem sN.since (x:V2 T W U d7 s s') (g:s8 s W W') {o7:List Addr} {n9:Hp} {r3:Heap} {t:Txt} {e:Value} (h:sN T W' s' o7 n9 r3 t e):sN T W s o7 n9 r3 t e:=h.Ml (λJ=>x.since) g
theorem XV.step {E:Value->Shared->Prop} {t:Txt} {n9:Hp} (x:i4 T W U s c7 d7 s') (h:XV T W U s E t n9):XV T W d7 s' E t n9:=λe l3 o7 o q=>h e l3 o7 (x.trans o) (q.since x.ext s8.refl)
theorem KT.step {Q:Bool->Shared->Prop} {b:Bool} {n9:Hp} (x:i4 T W U s c7 d7 s') (h:KT T W U s Q b n9):KT T W d7 s' Q b n9:=λl3 o7 o=>h l3 o7 (x.trans o)
theorem c4.step {α:Type} {rr:R α} {K K':α->Hp->Prop} {E:Value->Shared->Prop} (x:i4 T W U s c7 d7 s') (h:rr.c4 K (XV T W U s E)) (k:∀a Y,K a Y->K' a Y):rr.c4 K' (XV T W d7 s' E):=R.c4.mono h k λJ J h=>h.step x
theorem w0 {α:Type} {w:Nat} {o:Option α} {K:α->Hp->Prop} {X:Txt->Hp->Prop} {G:Prop} (h:(b8 w o Y).c4 K X) (k:∀a,o=some a->K a Y->G):G:=by
 induction o with
 |none=>exact h.elim
 |some a=>exact k a rfl h
theorem a9 {α β:Type} {w:Nat} {o:Option α} {f:α->Hp->R β} {K:β->Hp->Prop} {X:Txt->Hp->Prop} {G:Prop} (h:((b8 w o Y).bind f).c4 K X) (k:∀a,o=some a->(f a Y).c4 K X->G):G:=w0 (R.d5.mp h) k
theorem q8 {α:Type} {b:Bool} {r:R α} {w:Nat} {K:α->Hp->Prop} {X:Txt->Hp->Prop} {G:Prop} (h:(bif b then r else .no w).c4 K X) (k:b=true->r.c4 K X->G):G:=by
 induction b with
 |false=>exact h.elim
 |true=>exact k rfl h
theorem w7 {α:Type} {a b:R α} {K:α->Hp->Prop} {X:Txt->Hp->Prop} {G:Prop} (h:(cY a b).c4 K X) (k:a.c4 K X->G) (k':b.c4 K X->G):G:=by
 induction a with
 |ok=>exact k h
 |exc=>exact k h
 |no=>exact k' h
theorem Bx {α:Type} {K:α->Hp->Prop} (hr:g7 T n r.ev) (c:Cx T W n A env own m U Y s) {x:X} {e':Ex} {E:Value->Shared->Prop} {Q:Value->Shared->Prop} {f:V->Hp->R α} (t:Tr T env.kindOf x e') (h:((r.ev m x Y).bind f).c4 K (XV T W U s E))
 (k:∀v c9 w c5 c8,i4 T W U s c9 c8 c5->C5 T W c8 c5.heap v w->G1 T W s c8 c9 c5.heap v w->(f v c9).c4 K (XV T W U s E)->Q w c5):wpAny (model T.prog T.w) A (eval e' env) Q E s:=
 hr c t (R.c4.mono (R.d5.mp h) (λv c9 q w c5 c8 o hv hf=>k v c9 w c5 c8 o hv hf q) λJ J x=>x)
theorem Bw (hr:g7 T n r.ev) (c:Cx T W n A env own m U Y s) {x:X} {e':Ex} {Q K E:Value->Shared->Prop} {f:V->Hp->R V} (t:Tr T env.kindOf x e') (h:((r.ev m x Y).bind f).c4 (KV T W U s Q) (XV T W U s E))
 (k:∀v c9 w c5 c8,i4 T W U s c9 c8 c5->C5 T W c8 c5.heap v w->(f v c9).c4 (KV T W c8 c5 Q) (XV T W c8 c5 E)->K w c5):wpAny (model T.prog T.w) A (eval e' env) K E s:=
 Bx hr c t h λv c9 w c5 c8 o hv J q=>k v c9 w c5 c8 o hv (c4.step o q λJ J z=>z.step o)
theorem LS (ht:D8 T n r.tr) (c:Cx T W n A env own m U Y s) {α:Type} {K:α->Hp->Prop} {x:X} {e':Ex} {Q:Bool->Shared->Prop} {E:Value->Shared->Prop} {f:Bool->Hp->R α} (t:Tr T env.kindOf x e') (h:((r.tr m x Y).bind f).c4 K (XV T W U s E))
 (k:∀b c9 c5 c8,i4 T W U s c9 c8 c5->(f b c9).c4 K (XV T W U s E)->Q b c5):wpAny (model T.prog T.w) A (isTrue e' env (eval e' env)) Q E s:=
 ht c t (R.c4.mono (R.d5.mp h) (λb c9 q c5 c8 o=>k b c9 c5 c8 o q) λJ J x=>x)
end
variable {Q:Value->Shared->Prop}
section
theorem G1.not {d7:List Addr} {c7:Hp} {h':Heap} {v:V} {w:Value} (e:made v=false):G1 T W s d7 c7 h' v w:=λq=>Bool.noConfusion (e.symm.trans q)
theorem P2 {v:V} (h:solid v=true):made v=false:=by cases v<;>first|rfl|exact Bool.noConfusion h
theorem KV.here (c:d9 T W U Y s.heap) {v:V} {w:Value} (hv:C5 T W U s.heap v w) (hf:made v=false) {k:Nat} (h:KV T W U s Q v Y):Q w {s with toks:=k}:=h _ _ _ (i4.toks c) hv (G1.not hf)
theorem KV.vs (c:d9 T W U Y s.heap) {v:V} {w:Value} (hv:eP T W U s.heap v w) (g:solid v=true) {k:Nat} (h:KV T W U s Q v Y):Q w {s with toks:=k}:=h.here c (.mk _ _ hv) (P2 g)
theorem KV.G4 (c:d9 T W U Y s.heap) {v:V} {w:Value} (hv:bN T v w) (hf:made v=false) {k:Nat} (h:KV T W U s Q v Y):Q w {s with toks:=k}:=h.here c (.mk _ _ (.G4 _ _ hv)) hf
theorem KV.int (c:d9 T W U Y s.heap) {i:Int} {t:Tok} {k:Nat} (h:KV T W U s Q (.int i) Y):Q (.int i t) {s with toks:=k}:=h.G4 c (.int i t) rfl
theorem KV.bool (c:d9 T W U Y s.heap) {b:Bool} {k:Nat} (h:KV T W U s Q (.bool b) Y):Q (.bool b) {s with toks:=k}:=h.G4 c (.bool b) rfl
theorem KV.str (c:d9 T W U Y s.heap) {x:Txt} {t:Tok} {k:Nat} (hx:t6 x=true) (h:KV T W U s Q (.str x) Y):Q (.str (i3 x) t) {s with toks:=k}:=h.G4 c (.str x t hx) rfl
theorem KV.newList (c:d9 T W U Y s.heap) {xs:List V} {ws:List Value} (r:E4 T W U s.heap xs ws) (h:KV T W U s Q (.g6 xs) Y):Q (.ref s.heap.objs.size) {s with heap:=s.heap.push {cls:=.type "list",data:=.seq ws.toArray}}:=
 have k:=g9 s.heap {cls:=.type "list",data:=.seq ws.toArray}
 have x:i4 T W U s Y U {s with heap:=s.heap.push {cls:=.type "list",data:=.seq ws.toArray}}:=i4.keeps (t:=s.toks) c k
 have l:R6 (s.heap.push {cls:=.type "list",data:=.seq ws.toArray}) s.heap.objs.size ws:=⟨_,OU _ rfl⟩
 have ms:=bH (T:=T) (W:=W) (U:=U) k (y9 s.heap)
 h _ _ _ x (.mk _ _ (.jo _ xs ws _ rfl rfl l (c.N3 (none_at_size _)) (x.ext.IT r)))
  λJ=>⟨_,W.add [s.heap.objs.size],none_at_size _,s8.add (y9 _),.head _,c.adopt k (y9 _) (O2 rfl),.l xs ws l (r.ms ms)⟩
theorem KV.newTuple (c:d9 T W U Y s.heap) {xs:List V} {ws:List Value} (r:E4 T W U s.heap xs ws) (h:KV T W U s Q (.tup xs) Y):Q (.ref s.heap.objs.size) {s with heap:=s.heap.push {cls:=.type "tuple",data:=.seq ws.toArray}}:=
 have x:i4 T W U s Y U {s with heap:=s.heap.push {cls:=.type "tuple",data:=.seq ws.toArray}}:=i4.keeps (t:=s.toks) c (g9 _ _)
 h _ _ _ x (.mk _ _ (.tup xs ws _ ⟨_,OU _ rfl⟩ (c.N3 (none_at_size _)) (x.ext.IT r))) (G1.not rfl)
theorem Z5 (x y:Txt):i3 x++i3 y=i3 (x++y):=by
 apply Str.ext'
 simp[i3,Str.cps_append]
theorem K0 (x:Txt):(i3 x).length=x.length:=by simp[i3,Str.length]
theorem bp {n:Nat} (h:n≤1000):n≤sizeLine:=OV h (by rw[sizeLine_eq];decide)
theorem u7 {n:Nat} (h:Nat.ble n 1000=true):n≤sizeLine:=bp (OO h)
end
variable {E:Value->Shared->Prop}
section
@[elab_as_elim] theorem bk {a b v:V} {f:Int->Int->Option V} {bad f7:Addr->Prop} {h:Heap} {wa wb:Value} {G:Value->Value->Prop} (e:rF a b f=some v) (ha:VR T U bad f7 h a wa) (hb:VR T U bad f7 h b wb) (k:∀x y t u,f x y=some v->G (.int x t) (.int y u)):G wa wb:=
 a0 e λx ex e=>a0 e λy ey e=>u6 ha ex λt=>u6 hb ey λu=>k x y t u e
@[elab_as_elim] theorem aT {a b v:V} {f:Nat->Nat->Option V} {bad f7:Addr->Prop} {h:Heap} {wa wb:Value} {G:Value->Value->Prop} (e:vB a b f=some v) (ha:VR T U bad f7 h a wa) (hb:VR T U bad f7 h b wb) (k:∀x y t u,f x y=some v->G (.int (Int.ofNat x) t) (.int (Int.ofNat y) u)):G wa wb:=
 bk e ha hb λx y t u e=>a0 e λx' ex e=>a0 e λy' ey e=>by rw[T2 ex,T2 ey];exact k x' y' t u e
theorem vN {l b:Addr} {vs ws:List Value} (hl:R6 s.heap l vs) (hb:R6 s.heap b ws) (hsz:vs.length+ws.length≤sizeLine)
 (h:Q (.ref s.heap.objs.size) {s with heap:=s.heap.push {cls:=.type "list",data:=.seq (vs++ws).toArray}}):wpAny (model T.prog T.w) A (binaryOp .Add (.ref l) (.ref b)) Q E s:=
 hl.elim λn ho=>hb.elim λn2 ho2=>concat_meets (s:=s) (a:=.ref l) (b:=.ref b) ⟨_,ho,rfl⟩ ⟨_,ho2,rfl⟩ noFill_list_add seq_list_add PySem.F.slot_list_add PySem.F.entry_list_add (PySem.F.args_list_add_2 _ _) (list_addW l b vs.toArray ws.toArray n n2 none none #[] #[] (by rw[Ph,Ph];exact hsz))
  ⟨ho,ho2,(List.append_toArray vs ws).symm▸h⟩
theorem qw {t b:Addr} {vs ws:List Value} (ht:mZ s.heap t vs) (hb:mZ s.heap b ws) (hsz:vs.length+ws.length≤sizeLine) (h0:¬vs.toArray.isEmpty=true) (h1:¬ws.toArray.isEmpty=true)
 (h2:Q (.ref s.heap.objs.size) {s with heap:=s.heap.push {cls:=.type "tuple",data:=.seq (vs++ws).toArray}}):wpAny (model T.prog T.w) A (binaryOp .Add (.ref t) (.ref b)) Q E s:=
 ht.elim λn ho=>hb.elim λn2 ho2=>concat_meets (s:=s) (a:=.ref t) (b:=.ref b) ⟨_,ho,rfl⟩ ⟨_,ho2,rfl⟩ noFill_tuple_add seq_tuple_add PySem.F.slot_tuple_add PySem.F.entry_tuple_add (PySem.F.args_tuple_add_2 _ _)
  (tuple_addW2 t b vs.toArray ws.toArray n n2 none none #[] #[] h0 h1 (by rw[Ph,Ph];exact hsz)) ⟨ho,ho2,(List.append_toArray vs ws).symm▸h2⟩
theorem z1.full {bad:Addr->Prop} {h:Heap} {xs:List V} {ws:List Value} (x:z1 T U bad h xs ws) (e:(!xs.isEmpty)=true):¬ws.toArray.isEmpty=true:=by
 cases x with
 |nil=>exact Bool.noConfusion e
 |cons=>exact λq=>by simp at q
theorem IF (c:d9 T W U Y s.heap) {a b v:V} {wa wb:Value} (ha:C5 T W U s.heap a wa) (hb:C5 T W U s.heap b wb) (e:Lk a b=some v) (h:KV T W U s Q v Y):wpAny (model T.prog T.w) A (binaryOp .Add wa wb) Q E s:=
 i0 e (λe=>bk e ha hb λx y t u e=>add_int (KV.int c (ON e▸h))) λe=>
 i0 e (λe=>a0 e λx ex e=>a0 e λy ey e=>i9 e λg e=>n8 ha ex λt a1=>n8 hb ey λu a2=>
  add_str (λt' tk=>by rw[Z5];exact KV.str c (R2 a1 a2) (e▸h)) (by rw[K0,K0];exact u7 g)) λe=>
 i0 e (λe=>a0 e λx ex e=>a0 e λy ey e=>i9 e λg e=>a7 g λg g'=>a7 g' λg1 g2=>E7 ha ex λla ws l1 J r1=>E7 hb ey λlb us l2 J r2=>
  qw l1 l2 (by rw[r1.length,r2.length];exact u7 g) (r1.full g1) (r2.full g2) (KV.newTuple c (r1.append r2) (e▸h))) λe=>
 a0 e λx ex e=>a0 e λy ey e=>i9 e λg e=>VR.z0 ha ex λla ws l1 J r1=>VR.z0 hb ey λlb us l2 J r2=>vN l1 l2 (by rw[r1.length,r2.length];exact u7 g) (KV.newList c (r1.append r2) (e▸h))
theorem ay {k:Nat} (h:k≤1000):Builtin.Int.intBits (Int.ofNat k)≤64:=intBits_le_64 (Int.lt_of_lt_of_le (by decide: -(2 ^ 64:Int) < 0) (Pj k)) (Int.lt_of_le_of_lt (Int.ofNat_le.mpr h) (by decide:((1000:Nat):Int) < 2 ^ 64))
theorem sr (x y:Nat):Builtin.bitAnd (Int.ofNat x) (Int.ofNat y)=Int.ofNat (Nat.land x y):=by first|rfl|simp[Builtin.bitAnd]
theorem yM (x y:Nat):(Int.ofNat x) ^ (Int.ofNat y).toNat=Int.ofNat (Nat.pow x y):=(Int.natCast_pow x y).symm
theorem yu (x y:Nat):(Int.ofNat x) * 2 ^ (Int.ofNat y).toNat=Int.ofNat (x * Nat.pow 2 y):=by
 show(x:Int) * 2 ^ y=((x * 2 ^ y:Nat):Int)
 rw[Int.natCast_mul,Int.natCast_pow];rfl
theorem yr (x y:Nat):(Int.ofNat x).fdiv (2 ^ (Int.ofNat y).toNat)=Int.ofNat (x / Nat.pow 2 y):=by
 show(x:Int).fdiv (2 ^ y)=((x / 2 ^ y:Nat):Int)
 have e4:(2:Int) ^ y=((2 ^ y:Nat):Int):=by rw[Int.natCast_pow];rfl
 rw[e4,Int.fdiv_eq_ediv_of_nonneg _ (Pj _),Int.natCast_ediv]
theorem yL {x y:Nat} (h1:y≤64) (h2:x≤256):(Builtin.Int.intBits (Int.ofNat x):Int) * (Int.ofNat y)≤64 * 64:=by
 have:Builtin.Int.intBits (Int.ofNat x) * y≤64 * 64:=Nat.mul_le_mul (ay (OV h2 (by decide))) h1
 exact Int.ofNat_le.mpr this
theorem yt {x y:Nat} (h1:y≤64) (h2:x≤256):(Builtin.Int.intBits (Int.ofNat x):Int)+Int.ofNat y≤2 ^ 27:=by
 have:=ay (k:=x) (OV h2 (by decide))
 exact Int.ofNat_le.mpr (OV (Nat.add_le_add this h1) (by decide:64+64≤2 ^ 27))
theorem Ip (c:d9 T W U Y s.heap) (hA:A.handled=none) {op:IS} {a b v:V} {wa wb:Value} (ha:C5 T W U s.heap a wa) (hb:C5 T W U s.heap b wb) (e:xh op a b=some v) (h:KV T W U s Q v Y):wpAny (model T.prog T.w) A (binaryOp (GF op) wa wb) Q E s:=by
 induction op with
 |add=>exact IF c ha hb e h
 |sub=>exact bk e ha hb λx y t u e=>sub_int (KV.int c (ON e▸h))
 |mul=>exact aT e ha hb λx y t u e=>i9 e λg e=>a7 g λg J=>mul_int (KV.int c (e▸h)) (IntMulOk.of_left (ay (OO g)))
 |mod=>exact bk e ha hb λx y t u e=>i9 e λg e=>a7 g λg J=>mod_int (Int.ne_of_gt (OP g)) (by rw[Int.fmod_eq_emod_of_nonneg _ (Int.le_of_lt (OP g))];exact KV.int c (e▸h))
 |fdiv=>exact bk e ha hb λx y t u e=>i9 e λg e=>a7 g λg g'=>floordiv_int_or hA (λq=>absurd q (Int.ne_of_gt (OP g))) (λJ=>by rw[Int.fdiv_eq_ediv_of_nonneg _ (Int.le_of_lt (OP g))];exact KV.int c (e▸h)) (λJ=>.inl (PyProof.noPylong_small (by have:=OP g;have:=OP g';omega)))
 |pow=>exact aT e ha hb λx y t u e=>i9 e λg e=>a7 g λg g'=>pow_int (Pj _) (Int.le_trans (yL (OO g) (OO g')) (by decide)) (by rw[yM];exact KV.int c (e▸h))
 |shl=>exact aT e ha hb λx y t u e=>i9 e λg e=>a7 g λg g'=>lshift_int (Pj _) (yt (OO g) (OO g')) (by rw[yu];exact KV.int c (e▸h))
 |shr=>exact aT e ha hb λx y t u e=>i9 e λg e=>rshift_int (Pj _) (by rw[yr];exact KV.int c (e▸h))
 |band=>exact aT e ha hb λx y t u e=>and_int (by rw[sr];exact KV.int c (ON e▸h))
end
mutual
noncomputable def aF:D->PyData
 |.none=>.none
 |.bool b=>.bool b
 |.int i=>.int i
 |.str s=>.str (i3 s)
 |.seq true xs=>.tuple (iV xs)
 |.seq false xs=>.list (iV xs)
noncomputable def iV:List D->List PyData
 | []=>[]
 |v::vs=>aF v::iV vs
end
theorem AY (a b:Txt):r5 a b=(i3 a == i3 b):=(D2 a b).trans rfl
theorem lL:∀a b:D,jN a b=PyData.eqv (aF a) (aF b):=by
 refine D.rec (motive_1:=λa=>∀b,jN a b=PyData.eqv (aF a) (aF b)) (motive_2:=λxs=>∀ys,wB xs ys=PyData.eqvAll (iV xs) (iV ys)) ?_ ?_ ?_ ?_ ?_ ?_ ?_
 ·intro b;cases b with
  |seq t xs=>induction t<;>rfl
  |_=>rfl
 ·intro x b;cases b with
  |seq t xs=>induction t<;>rfl
  |int y=>induction x<;>rfl
  |_=>rfl
 ·intro x b;cases b with
  |seq t xs=>induction t<;>rfl
  |bool y=>induction y<;>rfl
  |_=>rfl
 ·intro x b;cases b with
  |seq t xs=>induction t<;>rfl
  |str y=>exact AY x y
  |_=>rfl
 ·intro t xs ih b;cases b with
  |seq u ys=>induction t<;>induction u<;>first|rfl|exact ih ys
  |_=>induction t<;>rfl
 ·intro ys;induction ys<;>rfl
 ·intro x xs h1 h2 ys;induction ys with
  |nil=>rfl
  |cons y ys=>exact congr (OY and (h1 y)) (h2 ys)
theorem nz {s:Txt} (h:t6 s=true):PySem.PyData.strOk (i3 s)=true:=by
 unfold PySem.PyData.strOk i3
 unfold t6 at h
 simp only[List.all_toArray,List.all_eq_true,decide_eq_true_eq]at *
 intro c hc
 have h1:c+1≤128:=OO (h c hc)
 omega
inductive RD (h:Heap) (w:Value) (d:PyData) (n:Nat):Prop
 |mk (as:List Addr) (r:Reads h w d as) (l:d.canLay0=true) (dp:d.depth≤n)
inductive Oy (h:Heap) (ws:List Value) (ds:List PyData) (n:Nat):Prop
 |mk (as:List Addr) (r:ReadsAll h ws ds as) (l:PyData.canLayAll0 ds=true) (dp:PyData.depthAll ds≤n)
variable {f7:Addr->Prop}
section
variable {bad:Addr->Prop}
theorem ur {f:V->Option D} {n:Nat} (hf:∀v d w,f v=some d->VS T U bad h v w->RD h w (aF d) n) {xs:List V} {ws:List Value} {ds:List D} (e:U3 f xs=some ds) (x:z1 T U bad h xs ws):Oy h ws (iV ds) n:=by
 induction xs generalizing ws ds with
 |nil=>cases x;cases e;exact⟨_,.nil,rfl,Nat.zero_le _⟩
 |cons v r ih=>
  cases x with
  |cons _ w _ ws g a q=>
   refine a0 e λd ed e=>d8 e λds' es e=>?_
   subst e
   exact match hf _ _ _ ed a,ih es q with|⟨as,r1,l1,d1⟩,⟨bs,r2,l2,d2⟩=>⟨_,.cons r1 r2,(Bool.and_eq_true_iff.mpr ⟨l1,l2⟩:(_&&_)=true),Nat.max_le.mpr ⟨d1,d2⟩⟩
theorem uD {n:Nat} {v:V} {d:D} {w:Value} (e:AZ v=some d) (x:VR T U bad f7 h v w):RD h w (aF d) n:=
 i0 e (λe=>d8 e λJ e1 e=>e▸I9 x e1 ⟨_,.none,rfl,Nat.zero_le _⟩) λe=>
 i0 e (λe=>d8 e λJ e1 e=>e▸H7 x e1 ⟨_,.bool _,rfl,Nat.zero_le _⟩) λe=>
 i0 e (λe=>d8 e λJ e1 e=>e▸u6 x e1 λt=>⟨_,.int _ t,rfl,Nat.zero_le _⟩) λe=>
 d8 e λJ e1 e=>e▸n8 x e1 λt a=>⟨_,.str _ t,nz a,Nat.zero_le _⟩
theorem au (n:Nat) {v:V} {d:D} {w:Value} (e:dat n v=some d) (x:VR T U bad f7 h v w):RD h w (aF d) n:=by
 induction n generalizing v d w f7 with
 |zero=>exact uD e x
 |succ n ih=>
  exact i0 e (λe=>uD e x) λe=>
   i0 e (λe=>a0 e λxs ex e=>d8 e λds ed e=>e▸E7 x ex λa ws l J r=>match l,ur (λJ J J e x=>ih (f7:=bad) e (.mk _ _ x)) ed r with|⟨k,l⟩,⟨as,r,c,dp⟩=>⟨_,.tuple l rfl rfl r,c,Nat.succ_le_succ dp⟩) λe=>
   a0 e λxs ex e=>d8 e λds ed e=>e▸VR.z0 x ex λa ws l J r=>match l,ur (λJ J J e x=>ih (f7:=bad) e (.mk _ _ x)) ed r with|⟨k,l⟩,⟨as,r,c,dp⟩=>⟨_,.list l rfl rfl r,c,Nat.succ_le_succ dp⟩
end
section
variable {bad:Addr->Prop}
@[elab_as_elim] theorem Al {a b:V} {r:Bool} (e:Am a b=some r) {G:Bool->Prop} (k:∀x y,dat 8 a=some x->dat 8 b=some y->G (PyData.eqv (aF x) (aF y))):G r:=
 a0 e λx ex e=>d8 e λy ey e=>by rw[←e,lL];exact k x y ex ey
theorem KA {a b:V} {wa wb:Value} {r:Bool} (ha:C5 T W U s.heap a wa) (hb:C5 T W U s.heap b wb) (e:Am a b=some r) (hu:A.units+20 < cLine) (h:Q (.bool r) s):wpAny (model T.prog T.w) A (compareOp .Eq wa wb) Q E s:=by
 revert h
 exact Al e λx y ex ey h=>match au 8 ex ha,au 8 ey hb with|⟨as,r1,l1,d1⟩,⟨bs,r2,l2,d2⟩=>PySem.SeqAt.eqOverData _ _ _ _ _ _ _ _ _ _ _ _ r1 r2 l1 l2 (Pf (Pa (OV (Nat.min_le_left _ _) (OV d1 (by decide))) _) hu) h
theorem JG {a b:V} {wa wb:Value} {r:Bool} (ha:C5 T W U s.heap a wa) (hb:C5 T W U s.heap b wb) (e:Am a b=some r) (hu:A.units+20 < cLine) (h:Q (.bool (!r)) s):wpAny (model T.prog T.w) A (compareOp .NotEq wa wb) Q E s:=by
 revert h
 exact Al e λx y ex ey h=>match au 8 ex ha,au 8 ey hb with|⟨as,r1,l1,d1⟩,⟨bs,r2,l2,d2⟩=>PySem.SeqAt.neOverData _ _ _ _ _ _ _ _ _ _ _ _ r1 r2 l1 l2 (Pf (Pa (OV (Nat.min_le_left _ _) (OV d1 (by decide))) _) hu) h
theorem DJ {a b:V} {wa wb:Value} {x y:D} (ha:VR T U bad f7 s.heap a wa) (hb:VR T U bad f7 s.heap b wb) (ex:dat 8 a=some x) (ey:dat 8 b=some y) (hu:A.units+20 < cLine):SeqAt.EqAt A s wa wb (jN x y):=
 match au 8 ex ha,au 8 ey hb with|⟨as,r1,l1,d1⟩,⟨bs,r2,l2,d2⟩=>λprog w E Q hq=>PySem.SeqAt.eqBoolOverData _ _ _ _ _ _ _ _ _ _ _ _ r1 r2 l1 l2 (Pf (Pa (OV (Nat.min_le_left _ _) (OV d1 (by decide))) _) hu) (lL x y▸hq)
noncomputable def Bz (h:Heap) (x:D) (y:Value):Bool:=@decide (∃d as,Reads h y d as∧PyData.eqv d (aF x)=true) (Classical.propDecidable _)
theorem HS {x d:D} {y:Value} {n:Nat} {h:Heap} (r:RD h y (aF d) n):Bz h x y=jN d x:=match r with
 |⟨as,q,_,_⟩=>by
  rw[lL]
  unfold Bz
  cases e:PyData.eqv (aF d) (aF x)with
  |true=>exact @decide_eq_true _ (Classical.propDecidable _) ⟨_,_,q,e⟩
  |false=>exact @decide_eq_false _ (Classical.propDecidable _) λ⟨d,bs,q2,e2⟩=>Bool.noConfusion (e.symm.trans ((PySem.Reads.unique q d bs q2).1▸e2))
theorem mA {v:V} {x:D} {wx:Value} {xs:List V} {ds:List D} {ws:List Value} (ed:U3 (dat 8) xs=some ds) (ex:dat 8 v=some x) (r:z1 T U bad s.heap xs ws) (rx:VR T U bad f7 s.heap v wx) (hu:A.units+20 < cLine):
 ws.map (Bz s.heap x)=ds.map (λy=>jN y x)∧∀y,y∈ws->SeqAt.EqAt A s y wx (Bz s.heap x y):=by
 induction xs generalizing ws ds with
 |nil=>cases r;cases ed;exact⟨rfl,λJ q=>nomatch q⟩
 |cons v vs ih=>
  cases r with
  |cons _ w _ ws g a q=>
   refine a0 ed λd e1 ed=>d8 ed λds' e2 ed=>?_
   subst ed
   have k:=HS (x:=x) (au 8 e1 (.mk (f7:=f7) _ _ a))
   exact⟨(congr (OY List.cons k) (ih e2 q).1:_=_),λy hy=>(OW hy).elim (λz=>by rw[z,k];exact DJ (.mk (f7:=f7) _ _ a) rx e1 ex hu) ((ih e2 q).2 y)⟩
theorem any_map {α β:Type} {f:α->Bool} {g:β->Bool} {l:List α} {m:List β} (e:l.map f=m.map g):l.toArray.any f=m.any g:=by
 rw[List.any_toArray]
 have:=OY (λo=>List.any o id) e
 simpa [List.any_map]using this
noncomputable def Ig (t:Bool):CmpOp:=if t then .NotIn else .In
variable {t r:Bool}
@[elab_as_elim] theorem tV {v:V} {xs:List V} (e:rG v xs=some r) {G:Bool->Prop} (k:∀d ds,dat 8 v=some d->U3 (dat 8) xs=some ds->G (ds.any λy=>jN y d)):G r:=a0 e λd ed e=>d8 e λds es e=>e▸k d ds ed es
theorem gw {l:Addr} {v:V} {wv:Value} {xs:List V} {ws:List Value} (hl:R6 s.heap l ws) (hr:z1 T U bad s.heap xs ws) (hv:VR T U bad f7 s.heap v wv) (e:rG v xs=some r) (hu:A.units+30 < cLine) (h:Q (.bool (t ^^ r)) s):wpAny (model T.prog T.w) A (compareOp (Ig t) wv (.ref l)) Q E s:=by
 revert h
 refine tV e λd ds ed es h=>?_
 have k:=mA (A:=A.in1) es ed hr hv (Pf (Pa (by decide:21≤30) A.units) hu)
 have ha:∀y,y∈ws.toArray->SeqAt.EqAt A.in1 s y wv (Bz s.heap d y):=λy hy=>k.2 y (List.mem_toArray.mp hy)
 induction t
 ·exact SeqAt.in_listAt (Bz s.heap d) hl.list ha (by rw[any_map k.1];simpa using h)
 ·exact SeqAt.notIn_listAt (Bz s.heap d) hl.list ha (by rw[any_map k.1];simpa using h)
theorem oJ {l:Addr} {v:V} {wv:Value} {xs:List V} {ws:List Value} (hl:mZ s.heap l ws) (hr:z1 T U bad s.heap xs ws) (hv:VR T U bad f7 s.heap v wv) (e:rG v xs=some r) (hu:A.units+30 < cLine) (h:Q (.bool (t ^^ r)) s):wpAny (model T.prog T.w) A (compareOp (Ig t) wv (.ref l)) Q E s:=by
 revert h
 refine tV e λd ds ed es h=>?_
 have k:=mA (A:=A.in1) es ed hr hv (Pf (Pa (by decide:21≤30) A.units) hu)
 have ha:∀y,y∈ws.toArray->SeqAt.EqAt A.in1 s y wv (Bz s.heap d y):=λy hy=>k.2 y (List.mem_toArray.mp hy)
 induction t
 ·exact SeqAt.in_tupleAt (Bz s.heap d) hl.tup ha (by rw[any_map k.1];simpa using h)
 ·exact SeqAt.notIn_tupleAt (Bz s.heap d) hl.tup ha (by rw[any_map k.1];simpa using h)
theorem isStrOf_self (x:Str) (t:Tok):Value.isStrOf x (.str x t)=true:=by simp[Value.isStrOf]
theorem isInt_self (x:Int) (t:Tok):Value.isInt x (.int x t)=true:=by simp[Value.isInt]
theorem K5 {K:Type} [DecidableEq K] {knd:KeyKind T.prog T.w K} {a:Addr} {k:K} {wk:Value} {kws:List (K×Value)} {o:Option V} (hk:knd.is k wk=true) (hd:s.heap.DictOf knd a kws) (hs:(a == sysModules)=false) (q:B1 T U bad s.heap o (valueAt kws k))
 (h:∀n,Q (.bool (t ^^ c3 o)) {s with toks:=n}):wpAny (model T.prog T.w) A (compareOp (Ig t) wk (.ref a)) Q E s:=by
 rw[←q.isSome]at h
 induction t
 ·exact wpAny_in_of (knd:=knd) hk hs hd.mapOf (by simpa using h _)
 ·exact wpAny_notIn_of (knd:=knd) hk hs hd.mapOf (by simpa using h _)
theorem v3 {K:Type} [DecidableEq K] (knd:KeyKind T.prog T.w K) {h:Heap} {a:Addr} {n:Nat} (e:h.get? a=some {cls:=.type "dict",data:=.dict #[] n}):h.DictOf knd a []:=by
 refine⟨_,#[],n,e,?_,rfl,?_,?_,?_⟩
 ·first|exact⟨rfl,rfl⟩|rfl|simp[Obj.ExactDict]
 ·intro e he;simp at he
 ·exact .nil
 ·simp
theorem vS {c:Nat} {x:Txt} {tk t':Tok} (h:Q (.bool (t ^^ x.any (Nat.beq c))) s):wpAny (model T.prog T.w) A (compareOp (Ig t) (.str (i3 [c]) t') (.str (i3 x) tk)) Q E s:=by
 have e:(!(Builtin.Str.occurrences (i3 x) (i3 [c]) 0 (i3 x).length 1).isEmpty)=x.any (Nat.beq c):=by
  show(!(Builtin.Str.occurrences (i3 x) ⟨#[c]⟩ 0 (i3 x).length 1).isEmpty)=_
  rw[StrLaws.found_one,Bool.eq_iff_iff,decide_eq_true_iff,List.any_eq_true]
  exact⟨λh=>⟨c,by simpa [i3]using h,Nat.beq_refl c⟩,λ⟨y,hy,q⟩=>by rw[Pc q];simpa [i3]using hy⟩
 induction t
 ·exact PyProof.Rows.in_str (by rw[e];simpa using h)
 ·exact PyProof.Rows.notIn_str (by rw[e];simpa using h)
theorem HP {a:V} {wa:Value} {ad:Addr} (g:Nt s.heap ad) (ha:C5 T W U s.heap a wa) (e:pf a=some r) (h:∀n,Q (.bool (t ^^ r)) {s with toks:=n}):wpAny (model T.prog T.w) A (compareOp (Ig t) wa (.ref ad)) Q E s:=by
 induction g with
 |mk n hs hd=>
  refine i0 e (λe=>d8 e λk ek e=>?_) λe=>d8 e λk ek e=>?_
  ·subst e;exact n8 ha ek λtk J=>K5 (T:=T) (U:=U) (knd:=PySem.strKind T.prog T.w) (bad:=k9 T W U) (o:=none) (isStrOf_self _ tk) (v3 _ hd) hs .none h
  ·subst e;exact u6 ha ek λtk=>K5 (T:=T) (U:=U) (knd:=PySem.intKind T.prog T.w) (bad:=k9 T W U) (o:=none) (isInt_self _ tk) (v3 _ hd) hs .none h
theorem Hu {a:V} {o:O} {wa:Value} {ad:Addr} (g:OR T W U s.heap ad o) (ha:C5 T W U s.heap a wa) (e:LM a o=some r) (hu:A.units+30 < cLine) (h:∀n,Q (.bool (t ^^ r)) {s with toks:=n}):wpAny (model T.prog T.w) A (compareOp (Ig t) wa (.ref ad)) Q E s:=
 i0 e (λe=>a0 e λf ef e=>d8 e λk ek e=>by
  rw[H5 ef]at g;subst e
  exact n8 ha ek λtk J=>match g with|⟨kws,d,s,q,_⟩=>K5 (knd:=PySem.strKind T.prog T.w) (isStrOf_self _ tk) d s (q k) h) λe=>
 i0 e (λe=>a0 e λf ef e=>d8 e λk ek e=>by
  rw[fM ef]at g;subst e
  exact u6 ha ek λtk=>match g with|⟨kws,d,s,e,q⟩=>K5 (knd:=PySem.intKind T.prog T.w) (isInt_self _ tk) d s (J8.look (key:=id) (eq:=IY) lK ⟨e,q⟩ k) h) λe=>
 i0 e (λe=>a0 e λf ef e=>by
  rw[W7 ef]at g
  exact HP g ha e h) λe=>
 a0 e λxs ex e=>by
  rw[O0 ex]at g
  exact match g with|⟨ws,l,q⟩=>gw l q ha e hu (h s.toks)
theorem zR {a b:V} {wa wb:Value} (c:d9 T W U Y s.heap) (ha:C5 T W U s.heap a wa) (hb:C5 T W U s.heap b wb) (e:IV a b Y=some r) (hu:A.units+30 < cLine) (h:∀n,Q (.bool (t ^^ r)) {s with toks:=n}):wpAny (model T.prog T.w) A (compareOp (Ig t) wa wb) Q E s:=
 i0 e (λe=>a0 e λx ex e=>a0 e λy ey e=>d8 e λk ek e=>by
  subst e;obtain rfl:=B3 ek
  exact n8 ha ey λt1 J=>n8 hb ex λt2 J=>vS (h s.toks)) λe=>
 i0 e (λe=>a0 e λi ei e=>a0 e λo eo e=>c.at eo λad h1 g=>A9 hb ei λad' h2=>by
  obtain rfl:ad=ad':=ON (h1.symm.trans h2)
  exact Hu g ha e hu h) λe=>
 i0 e (λe=>a0 e λxs ex e=>E7 hb ex λl ws hl J q=>oJ hl q ha e hu (h s.toks)) λe=>
 i0 e (λe=>a0 e λxs ex e=>VR.z0 hb ex λl ws hl J q=>gw hl q ha e hu (h s.toks)) λe=>
 a0 e λkvs ek e=>d8 e λk e1 e=>by
  subst e
  exact VR.U2 hb ek λl d=>d.Bt λkws hd hs q=>n8 ha e1 λtk J=>K5 (knd:=PySem.strKind T.prog T.w) (isStrOf_self _ tk) hd hs (J8.look D2 q k) h
theorem VR.oo {v:V} {w:Value} (x:VR T U bad f7 s.heap v w) (e:isNone v=some false):w≠.none:=by
 cases v with
 |bool=>exact x.H7 nofun
 |int=>exact x.u6 λJ=>nofun
 |str=>exact x.n8 λJ J=>nofun
 |tup=>exact x.E7 λJ J J J J=>nofun
 |lst|g6=>exact VR.z0 x rfl λJ J J J J=>nofun
 |none=>exact absurd (ON e) (by decide)
 |_=>exact ns e
theorem kW {o:Option Bool} {r:Bool} (h:o.map not=some r):o=some !r:=by
 induction o with
 |none=>exact ns h
 |some b=>exact OY some (by rw[←ON h,Bool.not_not])
theorem VR.is_none {v:V} {w:Value} (x:VR T U bad f7 s.heap v w) (e:isNone v=some true):w=.none:=by
 obtain rfl:v=.none:=by cases v<;>first|rfl|exact absurd (ON e) (by decide)|exact ns e
 exact x.I9 rfl
theorem HY {op:ij} {a b:V} {wa wb:Value} (c:d9 T W U Y s.heap) (ha:C5 T W U s.heap a wa) (hb:C5 T W U s.heap b wb) (e:sm op a b Y=some r) (hu:A.units+30 < cLine) (h:∀n,Q (.bool r) {s with toks:=n}):wpAny (model T.prog T.w) A (compareOp (M9 op) wa wb) Q E s:=by
 have ord:∀{f:Int->Int->Bool} {G:Value->Value->Bool->Prop},yU f a b=some r->(∀x y t u,G (.int x t) (.int y u) (f x y))->G wa wb r:=λ{f G} e k=>a0 e λx ex e=>d8 e λy ey e=>by subst e;exact u6 ha ex λt=>u6 hb ey λu=>k x y t u
 induction op with
 |eq=>exact KA ha hb e (Pf (Pa (by decide:20≤30) _) hu) (h s.toks)
 |ne=>exact JG ha hb (kW e) (Pf (Pa (by decide:20≤30) _) hu) (by rw[Bool.not_not];exact h s.toks)
 |is=>exact a0 e λJ ex e=>I9 hb ex (by
  induction r with
  |true=>rw[ha.is_none e];exact is_none_none (h s.toks)
  |false=>exact is_none_ne (ha.oo e) (h s.toks))
 |M6=>exact a0 (kW e) λJ ex e=>I9 hb ex (by
  induction r with
  |true=>exact isnot_none_ne (ha.oo e) (h s.toks)
  |false=>rw[ha.is_none e];exact isnot_none_none (h s.toks))
 |iz=>exact zR (t:=false) c ha hb e hu (by simpa using h)
 |R8=>exact zR (t:=true) c ha hb (kW e) hu (by simpa using h)
 |lt=>exact ord (G:=λwa wb r=>Q (.bool r) s->wpAny _ _ (compareOp _ wa wb) _ _ _) e (λJ J J J h=>wpAny_lt_int h) (h s.toks)
 |le=>exact ord (G:=λwa wb r=>Q (.bool r) s->wpAny _ _ (compareOp _ wa wb) _ _ _) e (λJ J J J h=>le_int h) (h s.toks)
 |gt=>exact ord (G:=λwa wb r=>Q (.bool r) s->wpAny _ _ (compareOp _ wa wb) _ _ _) e (λJ J J J h=>gt_int h) (h s.toks)
 |ge=>exact ord (G:=λwa wb r=>Q (.bool r) s->wpAny _ _ (compareOp _ wa wb) _ _ _) e (λJ J J J h=>ge_int h) (h s.toks)
end
inductive IK (T:i7):Prop
 |mk (mg mb:Str->Option Value) (n1:T.B.Ns mainGlobals mg) (n2:T.B.Ns builtinsNs mb) (r:∀x v,d6 T.glob x=some v->∃w,bN T v w∧(mg (T.nm x)=some w∨(mg (T.nm x)=none∧mb (T.nm x)=some w)))
structure E5 (T:i7) (P:Pg):Prop where
 EH:P.glob=T.glob
 fF:P.univ=T.univ
 LJ:∀x k,P.names[x]? =some k->T.nm x=i3 k
 rR:∀x y,T.nm x=T.nm y->x=y
 glob:IK T
 tI:T.B.NoLimit
 vO:T.K.In T.B
 bi:∀b,handedIn (T.bi b)=true
 small:T.univ.length≤1000
 af:∀n,n∈T.AF->∀c C,T.cls c=some C->Et T n C
 sf:∀n,n∈T.SF->∀c C,T.cls c=some C->Bo T n C
 dot:∀x,T.nm x≠ ".0"
section
theorem pk (c:Cx T W n A env own m U Y s):A.units+30 < cLine:=Pf (Nat.add_le_add_right (OV (Nat.le_add_right _ _) c.ar.units) 30) (by decide)
theorem C2 {v v':V} {w:Value} {f7:Addr->Prop} {bad:Addr->Prop} (e:freeze v=some v') (x:VR T U bad f7 h v w):solid v'=true∧VS T U bad h v' w:=by
 have low:∀{xs:List V},E3 v=some xs->dA v=false->VS T U bad h (.lst xs) w:=λ{xs} e1 e2=>VR.z0 x e1 λa ws l n r=>.jo _ xs ws a rfl rfl l (n e2) r
 cases v with
 |g6 xs=>obtain rfl:=ON e;exact⟨rfl,low rfl rfl⟩
 |E2 kvs=>
  obtain rfl:=ON e
  refine⟨rfl,?_⟩
  cases x with
  |mk _ _ x=>cases x with
   |G4 _ _ x=>cases x
   |jo _ _ _ _ e=>exact ns e
   |mX _ kvs a kws e e2 hd hs nb ek r=>exact .mX _ kvs a kws e rfl hd hs nb ek r
 |cu=>
  cases x with
  |mk _ _ x=>cases x with
   |G4 _ _ x=>cases x
   |jo _ _ _ _ e=>exact ns e
   |mX _ _ _ _ e=>exact ns e
 |snap=>exact ns e
 |Z9=>exact ns e
 |_=>obtain rfl:=ON e;exact⟨rfl,x.vs rfl⟩
theorem V5 {kd:Kd} {e:X} {e':Ex} (t:Tr T kd e e') (rest:List Ex) (env:Env):starEach (e'::rest) env=(false,eval e' env)::starEach rest env:=
 Tr.all (G:=λe'=>starEach (e'::rest) env=(false,eval e' env)::starEach rest env) t (λJ J=>rfl) (λJ J J=>rfl) (λJ J J J=>rfl) (λJ J J=>rfl) (λJ J J=>rfl) (λJ J J J=>rfl) (λJ J J J=>rfl) (λJ J J=>rfl) (λJ J J=>rfl) (λJ J J=>rfl) (λJ J=>rfl) (λJ J J=>rfl) (λJ J J=>rfl) (λJ J J J=>rfl)
theorem xV {kd:Kd} {e:X} {e':Ex} (t:Tr T kd e e') (op:CmpOp):behindInMarks op e'=false:=
 Tr.all (G:=λe'=>behindInMarks op e'=false) t (λJ J=>rfl) (λJ J J=>rfl) (λJ J J J=>rfl) (λJ J J=>rfl) (λJ J J=>rfl) (λJ J J J=>rfl) (λJ J J J=>rfl) (λJ J J=>rfl) (λJ J J=>rfl) (λJ J J=>rfl) (λJ J=>rfl) (λJ J J=>rfl) (λJ J J=>rfl) (λJ J J J=>rfl)
def NX (T:i7) (W:r9) (U:List Addr) (s:Shared) (Q:List Value->Shared->Prop) (vs:List V) (c7:Hp):Prop:=∀ws s' d7,i4 T W U s c7 d7 s'->E4 T W d7 s'.heap vs ws->Q ws s'
theorem gM (hr:g7 T n r.ev) {pos:Pos} {es:List X} {es':List Ex} (t:Z2 T env.kindOf es es'):∀{U:List Addr} {Y:Hp} {s:Shared} {Q:List Value->Shared->Prop},Cx T W n A env own m U Y s->
 (G7 r m es Y).c4 (NX T W U s Q) (XV T W U s E)->wpAny (model T.prog T.w) A (spliced (backTo pos (starEach es' env))) Q E s:=by
 induction t with
 |nil=>exact λc h=>OM (h [] _ _ (i4.refl c.rel) .nil)
 |cons x e xs es te ts ih=>
  intro U Y s Q c h
  rw[V5 te]
  exact spliced_cons (Bx hr c te h λv c9 w c5 c8 o hv J h=>a9 h λv' e h=>ih (c.mv o) (c4.step o (R.d5.mp h) λvs n9 k ws l3 o7 i8 q=>
   k (w::ws) l3 o7 (o.trans i8) (.cons _ _ _ _ (C2 e hv).1 (i8.ext.vs (C2 e hv).2) q)))
inductive J4 (T:i7) (W:r9) (U:List Addr) (h:Heap):List V->List Value->List Addr->Prop
 |nil:J4 T W U h [] [] []
 |plain (v:V) (w:Value) (vs:List V) (ws:List Value) (as:List Addr):made v=false->C5 T W U h v w->J4 T W U h vs ws as->J4 T W U h (v::vs) (w::ws) as
 |own (v:V) (a:Addr) (vs:List V) (ws:List Value) (as:List Addr):a∈W.own->M0 T W U h a v->J4 T W U h vs ws as->J4 T W U h (v::vs) (.ref a::ws) (a::as)
inductive ie (T:i7) (W:r9) (U:List Addr) (s:Shared) (c7:Hp) (d7:List Addr) (s':Shared) (vs:List V) (ws:List Value):Prop
 |mk (W':r9) (as:List Addr) (g:s8 s W W') (r:d9 T W' d7 c7 s'.heap) (q:J4 T W' d7 s'.heap vs ws as) (nd:as.Nodup) (nw:∀a,a∈as->s.heap.get? a=none)
def NY (T:i7) (W:r9) (U:List Addr) (s:Shared) (Q:List Value->Shared->Prop) (vs:List V) (c7:Hp):Prop:=∀ws s' d7,i4 T W U s c7 d7 s'->ie T W U s c7 d7 s' vs ws->Q ws s'
theorem M0.mv {a:Addr} {v:V} {S:Addr->Prop} {h':Heap} (q:M0 T W U h a v) (m:Ms U d7 (k9 T W U) (k9 T W' d7) S h h') (k:At a h h'):M0 T W' d7 h' a v:=by
 induction q with
 |l xs ws l r=>exact .l xs ws (l.at k) (r.ms m)
 |d kvs d=>exact .d kvs (d.at m k)
theorem M0.there {a:Addr} {v:V} (q:M0 T W U h a v):∃o,h.get? a=some o:=by
 induction q with
 |l xs ws l r=>exact l.there
 |d kvs d=>exact match d with|⟨_,hd,_,_,_⟩=>l9 hd
theorem rP (x:V2 T W U d7 s s') (g:s8 s W W'):Ms U d7 (k9 T W U) (k9 T W' d7) (A7 T W U) s.heap s'.heap:=⟨x.pre,x.off,x.ms.sb,λa o e q=>x.bE e (g.v5.back e q)⟩
theorem jM (hr:g7 T n r.ev) {pos:Pos} {es:List X} {es':List Ex} (t:Z2 T env.kindOf es es'):∀{W:r9} {U:List Addr} {Y:Hp} {s:Shared} {Q:List Value->Shared->Prop},Cx T W n A env own m U Y s->
 (m7 r m es Y).c4 (NY T W U s Q) (XV T W U s E)->wpAny (model T.prog T.w) A (spliced (backTo pos (starEach es' env))) Q E s:=by
 induction t with
 |nil=>exact λc h=>OM (h [] _ _ (i4.refl c.rel) ⟨_,[],s8.refl,c.rel,.nil,List.nodup_nil,λJ q=>nomatch q⟩)
 |cons x e xs es te ts ih=>
  intro W U Y s Q c h
  rw[V5 te]
  refine spliced_cons (Bx hr c te h λv c9 w c5 c8 o hv hf h=>?_)
  have key:∀(iQ:r9),s8 s W iQ->d9 T iQ c8 c9 c5.heap->(∀o7 l3 bI vs ws as,V2 T iQ c8 o7 c5 l3->s8 c5 iQ bI->J4 T bI o7 l3.heap vs ws as->(∀a,a∈as->c5.heap.get? a=none)->as.Nodup->
   ∃as',J4 T bI o7 l3.heap (v::vs) (w::ws) as'∧as'.Nodup∧∀a,a∈as'->s.heap.get? a=none)->wpAny (model T.prog T.w) A (spliced (backTo pos (starEach es env))) (λvs l3=>Q (w::vs) l3) E c5:=
   λiQ rM tW hb=>ih (c.grow o rM tW) (R.c4.mono (R.d5.mp h) (λvs n9 k ws l3 o7 i8 ⟨bI,as,oP,Km,q,nd,nw⟩=>
    match hb o7 l3 bI vs ws as i8.ext oP q nw nd with|⟨as',q',nd',nw'⟩=>k (w::ws) l3 o7 (o.jG rM i8) ⟨bI,as',rM.trans (oP.since o.ext),Km,q',nd',nw'⟩)
    λt n9 k e l3 o7 i8 q=>k e l3 o7 (o.jG rM i8) (q.since o.ext rM))
  induction hm:made v with
  |false=>exact key W s8.refl o.rel λo7 l3 bI vs ws as uK oP q nw nd=>⟨as,.plain _ w vs ws as hm (VR.mv (rP uK oP) (λa o e z=>⟨λy=>(uK.f7 a o e z).1 (y.imp id λy=>y.imp (λy=>oP.l6▸y) id),(uK.f7 a o e z).2⟩) hv) q,nd,λb hb=>o.ext.since (nw b hb)⟩
  |true=>
   induction hf hm with
   |mk a iQ n1 rM ha tW Ju=>
    exact key iQ rM tW λo7 l3 bI vs ws as uK oP q nw nd=>⟨a::as,.own v a vs ws as (oP.own a ha) (Ju.mv (rP uK oP) (uK.ownAt tW.o5 ha)) q,List.nodup_cons.mpr ⟨λz=>Ju.there.elim λJ e=>d0 (nw a z) e,nd⟩,λb hb=>(OW hb).elim (λz=>z▸n1) λz=>o.ext.since (nw b z)⟩
inductive xu (T:i7) (W:r9) (U:List Addr) (h:Heap):List V->List Value->Prop
 |nil:xu T W U h [] []
 |cons (v:V) (w:Value) (vs:List V) (ws:List Value):C5 T W U h v w->xu T W U h vs ws->xu T W U h (v::vs) (w::ws)
theorem M0.vr {a:Addr} {v:V} (q:M0 T W' U h a v) (m:Ms U U (k9 T W' U) (k9 T W U) (λJ=>False) h h) (nb:¬k9 T W U a):C5 T W U h v (.ref a):=by
 induction q with
 |l xs ws l r=>exact .mk _ _ (.jo _ xs ws a rfl rfl l nb (r.ms m))
 |d kvs d=>exact match d.at m (λJ e=>e)with|⟨kws,hd,s,e,r⟩=>.mk _ _ (.mX _ kvs a kws rfl rfl hd s nb e r)
theorem cb (c:BC T W U s.heap) (g:s8 s W W') (r:d9 T W' d7 c7 h) {a:Addr} (ha:a∈W'.own) (hn:s.heap.get? a=none):¬k9 T W d7 a:=λq=>(r.o5.own a ha).nm (q.imp id λq=>q.imp (λq=>g.l6▸q) λq=>q.elim (λq=>(c.own a q).ex.elim λJ e=>d0 hn e) id)
theorem ie.vr {vs:List V} {ws:List Value} (c:BC T W U s.heap) (x:ie T W U s c7 d7 s' vs ws):xu T W d7 s'.heap vs ws:=by
 induction x with
 |mk W' as g r q nd nw=>
  clear nd
  have m:=g.ms (T:=T) (U:=d7) s'.heap
  induction q with
  |nil=>exact .nil
  |plain v w vs ws as hm hv _ ih=>exact .cons _ _ _ _ (VR.mv m (λa J J q=>⟨λz=>q (z.imp id λz=>z.imp (λz=>g.l6▸z) id),id⟩) hv) (ih nw)
  |own v a vs ws as ha q _ ih=>exact .cons _ _ _ _ (q.vr m (cb c g r ha (nw a (.head _)))) (ih λb hb=>nw b (.tail _ hb))
theorem xu.one {vs:List V} {ws:List Value} {v:V} {G:List Value->Prop} (x:xu T W U h vs ws) (e:y0 vs=some v) (k:∀w,C5 T W U h v w->G [w]):G ws:=by
 obtain rfl:=B3 e
 cases x with|cons _ w _ _ a q=>cases q;exact k w a
theorem xu.two {vs:List V} {ws:List Value} {v:V×V} {G:List Value->Prop} (x:xu T W U h vs ws) (e:two1 vs=some v) (k:∀w u,C5 T W U h v.1 w->C5 T W U h v.2 u->G [w,u]):G ws:=by
 obtain rfl:=two1_eq e
 cases x with|cons _ w _ _ a q=>cases q with|cons _ u _ _ b q=>cases q;exact k w u a b
end
theorem vQ {α:Type} {o:Option α} {G:Prop} (h:o.isSome=true) (k:∀a,o=some a->G):G:=by
 induction o with
 |none=>exact Bool.noConfusion h
 |some a=>exact k a rfl
theorem A2 {B h:Heap} (k:B.StaysIn h) {a:Addr} {m:Str->Option Value} (n:B.Ns a m):h.Ns a m:=ji n λo e=>k a o e
theorem nY {v:V} (h:solid v=true):Y4 v=none∨(Y4 v=some v∧made v=false):=by
 cases v<;>first|exact .inr ⟨rfl,rfl⟩|exact .inl rfl|exact Bool.noConfusion h
theorem Jx {o:Option NameKind} (h:f6 o T6=true):o=some .local∨o=some .cell∨o=some .free:=by
 induction o with
 |none=>exact Bool.noConfusion h
 |some k=>induction k<;>first|exact .inl rfl|exact .inr (.inl rfl)|exact .inr (.inr rfl)|exact Bool.noConfusion h
theorem bN.made {T:i7} {v:V} {w:Value} (x:bN T v w):made v=false:=bN.rec (motive:=λv J J=>Mine.made v=false) rfl (λJ=>rfl) (λJ J=>rfl) (λJ J J=>rfl) (λJ J J J=>rfl) (λJ J J=>rfl) (λJ J J=>rfl) (λJ=>rfl) x
variable {P:Pg} {e':Ex} {y:X}
section
variable {z:X}
theorem fc {v:V} {w:Value} {b:Bool} {Q:Bool->Shared->Prop} (hv:C5 T W U s.heap v w) (e:fe v=some b) (h:Q b s):wpAny (model T.prog T.w) A (truthy w) Q E s:=
 i0 e (λe=>H7 hv e (wpAny_truthy_bool h)) λe=>i0 e (λe=>d8 e λJ e e'=>I9 hv e (truthy_none (e'▸h))) λe=>d8 e λi e e'=>u6 hv e λt=>PyProof.Rows.truthy_int (by
  have e2:decide (i≠0)=(i != 0):=by by_cases q:i=0<;>simp[q]
  rw[←e2,e'];exact h)
theorem zv (c:Cx T W n A env own m U Y s) {v:V} (t:Tr T env.kindOf (.lit v) e') (h:KV T W U s Q v Y):wpAny (model T.prog T.w) A (eval e' env) Q E s:=
 t.rD λcc i p q=>by
  induction cc with
  |none=>exact vQ q λJ e=>wpAny_Constant_none (KV.G4 c.rel (cN e▸.none) (cN e▸rfl) h)
  |bool b=>exact b7 q λJ e q=>wpAny_Constant_bool (KV.bool c.rel (OP q▸cO e▸h))
  |int b=>exact b7 q λJ e q=>wpAny_Constant_int (KV.int c.rel (OP q▸hM e▸h))
  |str b=>exact b7 q λJ e q=>a7 q λq1 q2=>(by rw[←OP q1];exact wpAny_Constant_str (KV.str c.rel q2 (U7 e▸h)))
  |bytes b=>exact b7 q λu e q=>(have:wpAny (model T.prog T.w) A (mkTextBytes b.toArray) Q E s:=λJ J J=>KV.G4 c.rel (.bytes u b.toArray s.toks (OP q)) rfl (aA e▸h);this)
  |_=>exact Bool.noConfusion q
theorem D9 {h:Heap} {y:Str} {w:Value} (c:env.scope.kind=.function) (hd:y4 y=true) (x:n7 W env s.heap y w) {p:Pos} (h:Q w s):wpAny (model T.prog T.w) A (eval (.Name y p) env) Q E s:=
 a7 hd λh1 h2=>wpAny_Name (match x with
  |.loc f k n e=>wpAny_loadName_local c k n e h
  |.P0 ca k hc ho hi=>k.elim (λk=>wpAny_loadName_cell c k hc hi h) λk=>wpAny_loadName_free c k hc hi h ((Bool.not_eq_true' _).mp h2)) ((Bool.not_eq_true' _).mp h1)
theorem FV.borrowed (k:BC T W U s.heap) (ho:∀x a,(x,a)∈own->a∈W.own) {x:Nat} {v v':V} {w:Value} (h:FV T W U s.heap own x v w) (e:Y4 v=some v'):C5 T W U s.heap v' w∧made v'=false:=by
 induction h with
 |ml xs ws a o l r=>cases e;exact⟨.Gd xs ws a l (k.own a (ho _ _ o)).nm r,rfl⟩
 |md kvs a o q=>cases e;exact match q with|⟨kws,hd,s,e,r⟩=>⟨.snd kvs a kws hd s (k.own a (ho _ _ o)).nm e r,rfl⟩
 |mo=>exact ns e
 |pl _ _ g r=>exact(nY g).elim (λq=>d0 q e) λq=>ON (q.1.symm.trans e)▸⟨.mk _ _ r,q.2⟩
theorem aU (c:Cx T W n A env own m U Y s) {x:Nat} {v:V} (t:Tr T env.kindOf (.OK x) e') (e:d6 m x=some v) (k:∀w,n7 W env s.heap (T.nm x) w->FV T W U s.heap own x v w->Q w s):wpAny (model T.prog T.w) A (eval e' env) Q E s:=
 t.P5 λp h1 J h3=>(c.fr.var x v e (h3 (c.fr.loc x v e))).elim λw z=>D9 (h:=s.heap) c.fr.kind h1 z.1 (k w z.1 z.2)
theorem vC (tk:E5 T P) (c:Cx T W n A env own m U Y s) {x:Nat} (t:Tr T env.kindOf (.OK x) e') (h:(s7 P r m (.OK x) Y).c4 (KV T W U s Q) (XV T W U s E)):wpAny (model T.prog T.w) A (eval e' env) Q E s:=
 cg (K:=λz=>R.c4 z _ _) h (λv e h=>w0 h λv' e' h=>aU c t e λw J f=>KV.here c.rel (f.borrowed c.rel.o5 c.fr.own e').1 (f.borrowed c.rel.o5 c.fr.own e').2 h) λe h=>w0 h λv e h=>by
  rw[tk.EH]at e
  exact t.P5 λp h1 h2 J=>match tk.glob with
  |⟨mg,mb,n1,n2,q⟩=>(q x v e).elim λw z=>Name_function_global c.fr.kind (h2 v e) (z.2.elim (λhw=>loadGlobal_global (c.fr.glob▸A2 c.rel.base n1) hw (KV.G4 c.rel z.1 z.1.made h))
   λhw=>loadGlobal_builtin (c.fr.glob▸A2 c.rel.base n1) hw.1 (c.fr.blt▸A2 c.rel.base n2) hw.2 (KV.G4 c.rel z.1 z.1.made h)) (a7 h1 λh1 J=>(Bool.not_eq_true' _).mp h1)
theorem AW (hr:g7 T n r.ev) (c:Cx T W n A env own m U Y s) {op:IS} (t:Tr T env.kindOf (.bin op x y) e') (h:(s7 P r m (.bin op x y) Y).c4 (KV T W U s Q) (XV T W U s E)):wpAny (model T.prog T.w) A (eval e' env) Q E s:=
 t.sv λJ J J t1 t2=>wpAny_BinOp (Bw hr c t1 h λa c9 wa c5 c8 w3 va h=>Bw hr (c.mv w3) t2 h λb n9 wb l3 o7 i8 vb h=>w0 h λv e h=>Ip i8.rel c.ar.handled (i8.ext.vr va) vb e h)
theorem yX (hr:g7 T n r.ev) (c:Cx T W n A env own m U Y s) (t:Tr T env.kindOf (.not x) e') (h:(s7 P r m (.not x) Y).c4 (KV T W U s Q) (XV T W U s E)):wpAny (model T.prog T.w) A (eval e' env) Q E s:=
 t.rh λJ J t1=>wpAny_UnaryOp (Bw hr c t1 h λa c9 wa c5 c8 w3 va h=>a9 h λb e h=>not_of (fc va e (KV.bool w3.rel h)))
theorem ze (hr:g7 T n r.ev) (c:Cx T W n A env own m U Y s) (t:Tr T env.kindOf (.neg x) e') (h:(s7 P r m (.neg x) Y).c4 (KV T W U s Q) (XV T W U s E)):wpAny (model T.prog T.w) A (eval e' env) Q E s:=
 t.rn λJ J t1=>wpAny_UnaryOp (Bw hr c t1 h λa c9 wa c5 c8 w3 va h=>a9 h λi e h=>u6 va e λt=>PyProof.Rows.neg_int (KV.int w3.rel h))
noncomputable def Lg (b:Bool):BoolOp:=if b then .And else .Or
theorem Ec (hr:g7 T n r.ev) {pos:Pos} {b:Bool} {es:List X}:∀{x:X} {e':Ex} {es':List Ex} {U:List Addr} {Y:Hp} {s:Shared},Cx T W n A env own m U Y s->Tr T env.kindOf x e'->Z2 T env.kindOf es es'->
 (DI r m b x es Y).c4 (KV T W U s Q) (XV T W U s E)->wpAny (model T.prog T.w) A (boolOp pos (Lg b) (evalEach (e'::es') env)) Q E s:=by
 induction es with
 |nil=>exact λc t ts h=>by cases ts;exact hr c t h
 |cons e2 es ih=>
  intro x e' es' U Y s c t ts h
  cases ts with
  |cons _ e2' _ es' t2 ts=>
   show wpAny _ _ (do
    let v←eval e' env
    standAt pos
    let t←holding [v] (truthy v)
    match Lg b,t with
    |.And,false|.Or,true=>pure v
    |_,_=>boolOp pos (Lg b) (evalEach (e2'::es') env)) _ _ _
   refine OL (Bx hr c t h λv c9 w c5 c8 o hv hf h=>OL (Pk (OL (Pd (a9 h λt e h=>fc hv e ?_)))))
   have go:(DI r m b e2 es c9).c4 (KV T W U s Q) (XV T W U s E)->_:=λh=>ih (c.mv o) t2 ts (c4.step o h λJ J q=>q.step o)
   have st:KV T W U s Q v c9->Q w c5:=λk=>k _ _ _ o hv hf
   cases b<;>induction t<;>first|exact OM (st h)|exact go h
theorem uC (hr:g7 T n r.ev) (c:Cx T W n A env own m U Y s) {b:Bool} {es:List X} {es':List Ex} {p:Pos} (t:Z2 T env.kindOf es es') (h:(sd r m b es Y).c4 (KV T W U s Q) (XV T W U s E)):wpAny (model T.prog T.w) A (eval (.BoolOp (Lg b) es' p) env) Q E s:=by
 rw[arm_eval_BoolOp]
 induction t with
 |nil=>exact h.elim
 |cons _ _ _ _ t ts=>exact Ec hr c t ts h
theorem jl {kd:Kd} {env:Env} {rs:List (ij×X)} {es:List Ex} (t:FH T kd rs es):markedEach (rs.map λq=>M9 q.1) es (evalEach es env)=evalEach es env:=by
 induction t with
 |nil=>rfl
 |cons q e xs es te ts ih=>induction ts with
  |nil=>exact OY (· ::[]) (markedBehindIn_of_false (xV te _))
  |cons=>exact OY (_:: ·) ih
theorem wU (hr:g7 T n r.ev) {α β:Type} {op:ij} {a:V} {wa:Value} {f:V->Bool->Hp->R α} {K:α->Hp->Prop} {QQ:β->Shared->Prop} {H:Value->Sem Value->Sem β} {Q':Value->Value->Shared->Prop} (hH:∀{rv t s},wpAny (model T.prog T.w) A t (Q' rv) E s->wpAny (model T.prog T.w) A (H rv t) QQ E s)
 (c:Cx T W n A env own m U Y s) (va:C5 T W U s.heap a wa) (t:Tr T env.kindOf x e') {pos:Pos} (h:((r.ev m x Y).bind λb Y=>(b8 74 (sm op a b Y) Y).bind (f b)).c4 K (XV T W U s E))
 (k:∀b c9 wb c5 c8 t,i4 T W U s c9 c8 c5->C5 T W c8 c5.heap b wb->(f b t c9).c4 K (XV T W U s E)->Q' wb (.bool t) c5):
 wpAny (model T.prog T.w) A (do let rv←holding [wa] (eval e' env);standAt pos;H rv (compareOp (M9 op) wa rv)) QQ E s:=
 OL (Pd (Bx hr c t h λb c9 wb c5 c8 o vb J h=>OL (Pk (hH (a9 h λt e h=>HY o.rel (o.ext.vr va) vb e (pk c) λi=>k b c9 wb _ c8 t (o.trans (i4.toks o.rel)) vb h)))))
theorem AN (hr:g7 T n r.ev) {pos:Pos} {rs:List (ij×X)}:∀{op:ij} {x:X} {e':Ex} {es':List Ex} {a:V} {wa:Value} {U:List Addr} {Y:Hp} {s:Shared},Cx T W n A env own m U Y s->C5 T W U s.heap a wa->Tr T env.kindOf x e'->FH T env.kindOf rs es'->
 (wR r m a op x rs Y).c4 (KT T W U s (λb=>Q (.bool b))) (XV T W U s E)->wpAny (model T.prog T.w) A (compareChain pos wa (M9 op::rs.map λq=>M9 q.1) (evalEach (e'::es') env)) Q E s:=by
 induction rs with
 |nil=>
  intro op x e' es' a wa U Y s c va t ts h
  cases ts
  exact wU (H:=λrv=>operate [wa,rv]) (Q':=λJ=>Q) (f:=λJ t Y=>.ok t Y) hr (λh=>wpAny_operating h) c va t h λb c9 wb c5 c8 t o vb h=>h _ _ o
 |cons p rs ih=>
  intro op x e' es' a wa U Y s c va t ts h
  cases ts with
  |cons _ e2' _ es' t2 ts=>
   refine wU (H:=λrv t=>do let c←holding [wa,rv] t;release [wa,rv] [c];if←holding [c,rv] (truthy c)then compareChain pos rv (M9 p.1::rs.map λq=>M9 q.1) (evalEach (e2'::es') env)else pure c)
    (f:=λb t Y=>bif t then wR r m b p.1 p.2 rs Y else .ok false Y) hr (λh=>OL (Pd h)) c va t h λb c9 wb c5 c8 t o vb h=>OL (wpAny_release (OL (Pd (wpAny_truthy_bool ?_))))
   cases t with
   |false=>exact OM (h _ _ o)
   |true=>exact ih (c.mv o) vb t2 ts (c4.step o h λJ J q=>q.step o)
theorem uU (hr:g7 T n r.ev) {pos:Pos} {Q:Bool->Shared->Prop} {rs:List (ij×X)}:∀{op:ij} {x:X} {e':Ex} {es':List Ex} {a:V} {wa:Value} {U:List Addr} {Y:Hp} {s:Shared},Cx T W n A env own m U Y s->C5 T W U s.heap a wa->Tr T env.kindOf x e'->FH T env.kindOf rs es'->
 (wR r m a op x rs Y).c4 (KT T W U s Q) (XV T W U s E)->wpAny (model T.prog T.w) A (testChain pos wa (M9 op::rs.map λq=>M9 q.1) (evalEach (e'::es') env)) Q E s:=by
 induction rs with
 |nil=>
  intro op x e' es' a wa U Y s c va t ts h
  cases ts
  exact wU (H:=λrv t=>do let c←operate [wa,rv] t;holding [c] (truthy c)) (f:=λJ t Y=>.ok t Y) hr (λh=>OL (wpAny_operating h)) c va t h λb c9 wb c5 c8 t o vb h=>Pd (wpAny_truthy_bool (h _ _ o))
 |cons p rs ih=>
  intro op x e' es' a wa U Y s c va t ts h
  cases ts with
  |cons _ e2' _ es' t2 ts=>
   refine wU (H:=λrv t=>do let c←holding [wa,rv] t;release [wa,rv] [c];if←holding [c,rv] (truthy c)then testChain pos rv (M9 p.1::rs.map λq=>M9 q.1) (evalEach (e2'::es') env)else pure false)
    (f:=λb t Y=>bif t then wR r m b p.1 p.2 rs Y else .ok false Y) hr (λh=>OL (Pd h)) c va t h λb c9 wb c5 c8 t o vb h=>OL (wpAny_release (OL (Pd (wpAny_truthy_bool ?_))))
   cases t with
   |false=>exact OM (h _ _ o)
   |true=>exact ih (c.mv o) vb t2 ts (c4.step o h λJ J q=>q.step o)
theorem AI (hr:g7 T n r.ev) (c:Cx T W n A env own m U Y s) {rs:List (ij×X)} (t:Tr T env.kindOf (.cmp x rs) e') (h:(s7 P r m (.cmp x rs) Y).c4 (KV T W U s Q) (XV T W U s E)):wpAny (model T.prog T.w) A (eval e' env) Q E s:=
 t.sk λl es p t1 t2=>by
  rw[arm_eval_Compare,jl t2]
  exact OL (Bw hr c t1 h λa c9 wa c5 c8 o va h=>by
   induction t2 with
   |nil=>exact h.elim
   |cons _ _ _ _ u ts=>exact AN hr (c.mv o) va u ts (R.c4.mono (R.d5.mp h) (λb n9 h l3 o7 i8=>KV.bool i8.rel (h.step i8)) λJ J x=>x))
theorem zL (hr:g7 T n r.ev) (ht:D8 T n r.tr) (c:Cx T W n A env own m U Y s) (t:Tr T env.kindOf (.ite x y z) e') (h:(s7 P r m (.ite x y z) Y).c4 (KV T W U s Q) (XV T W U s E)):wpAny (model T.prog T.w) A (eval e' env) Q E s:=
 t.gp λJ J J J t1 t2 t3=>wpAny_IfExp (LS ht c t1 h λb c9 c5 c8 o h=>by
  induction b with
  |true=>exact hr (c.mv o) t2 (c4.step o h λJ J q=>q.step o)
  |false=>exact hr (c.mv o) t3 (c4.step o h λJ J q=>q.step o))
theorem vK (hr:g7 T n r.ev) (c:Cx T W n A env own m U Y s) {es:List X} (t:Tr T env.kindOf (.list es) e') (h:(s7 P r m (.list es) Y).c4 (KV T W U s Q) (XV T W U s E)):wpAny (model T.prog T.w) A (eval e' env) Q E s:=
 t.kZ λJ J t1=>wpAny_List_spliced (gM hr t1 c (R.c4.mono (R.d5.mp h) (λvs c9 h ws c5 c8 o q=>a9 h λus e h=>i9 e λg e=>⟨by rw[q.length];exact u7 g,KV.newList o.rel q (e▸KV.step o h)⟩) λJ J x=>x))
theorem qr (hr:g7 T n r.ev) (c:Cx T W n A env own m U Y s) {es:List X} (t:Tr T env.kindOf (.tuple es) e') (h:(s7 P r m (.tuple es) Y).c4 (KV T W U s Q) (XV T W U s E)):wpAny (model T.prog T.w) A (eval e' env) Q E s:=
 t.eZ λJ J J t1=>wpAny_Tuple_spliced (gM hr t1 c (R.c4.mono (R.d5.mp h) (λvs c9 h ws c5 c8 o q=>a9 h λus e h=>i9 e λg e=>⟨by rw[q.length];exact u7 g,KV.newTuple o.rel q (e▸KV.step o h)⟩) λJ J x=>x))
section
variable {Q:Bool->Shared->Prop}
theorem ya (ht:D8 T n r.tr) {b:Bool} {es:List X}:∀{es':List Ex} {U:List Addr} {Y:Hp} {s:Shared},Cx T W n A env own m U Y s->Z2 T env.kindOf es es'->
 (bQ r m b es Y).c4 (KT T W U s Q) (XV T W U s E)->wpAny (model T.prog T.w) A (allTrue (Lg b) es' env) Q E s:=by
 induction es with
 |nil=>exact λc ts h=>by cases ts;induction b<;>exact OM (h _ _ (i4.refl c.rel))
 |cons x es ih=>
  intro es' U Y s c ts h
  cases ts with
  |cons _ e' _ es' t ts=>
   rw[arm_allTrue_cons]
   refine OL (LS ht c t h λt c9 c5 c8 o h=>?_)
   have go:(bQ r m b es c9).c4 (KT T W U s Q) (XV T W U s E)->_:=λh=>ih (c.mv o) ts (c4.step o h λJ J q=>q.step o)
   have st:KT T W U s Q t c9->Q t c5:=λk=>k _ _ o
   induction b<;>induction t<;>first|exact OM (st h)|exact go h
theorem v9 (hr:g7 T n r.ev) (c:Cx T W n A env own m U Y s) (t:Tr T env.kindOf x e') (h:((r.ev m x Y).bind λv Y=>b8 110 (fe v) Y).c4 (KT T W U s Q) (XV T W U s E))
 (he:isTrue e' env (eval e' env)=(do let v←eval e' env;standAt e'.pos;holding [v] (truthy v))):wpAny (model T.prog T.w) A (isTrue e' env (eval e' env)) Q E s:=
 wpAny_isTrue_value (Bx hr c t h λv c9 w c5 c8 o hv J h=>w0 h λb e h=>fc hv e (h _ _ o)) he
theorem BR (hr:g7 T n r.ev) (ht:D8 T n r.tr):D8 T (n+1) (xW r):=by
 intro W A env own m U Y s x e' Q E c t h
 have c:=c.low
 cases x with
 |not=>exact t.rh λJ J t1=>wpAny_isTrue_Not (LS ht c t1 h λb c9 c5 c8 o h=>h _ _ o)
 |R5=>exact t.a7 λJ J t1=>wpAny_isTrue_BoolOp (ya (b:=true) ht c t1 h)
 |mN=>exact t.i0 λJ J t1=>wpAny_isTrue_BoolOp (ya (b:=false) ht c t1 h)
 |ite=>exact t.gp λJ J J J t1 t2 t3=>(by
  rw[arm_isTrue_IfExp]
  exact OL (LS ht c t1 h λb c9 c5 c8 o h=>by
   induction b with
   |true=>exact ht (c.mv o) t2 (c4.step o h λJ J q=>q.step o)
   |false=>exact ht (c.mv o) t3 (c4.step o h λJ J q=>q.step o)))
 |cmp=>exact t.sk λl es p t1 t2=>(by
  rw[arm_isTrue_Compare,jl t2]
  exact OL (Bx hr c t1 h λa c9 wa c5 c8 o va J h=>by
   cases t2 with
   |nil=>exact h.elim
   |cons _ _ _ _ u ts=>exact uU hr (c.mv o) va u ts (c4.step o h λJ J q=>q.step o)))
 |lit=>exact v9 hr c t h (t.rD λJ J J J=>rfl)
 |OK=>exact v9 hr c t h (t.P5 λJ J J J=>rfl)
 |bin=>exact v9 hr c t h (t.sv λJ J J J J=>rfl)
 |neg=>exact v9 hr c t h (t.rn λJ J J=>rfl)
 |call=>exact v9 hr c t h (t.lO λJ J J J J J J=>rfl)
 |l5=>exact v9 hr c t h (t.kQ λJ J J J J J J J J=>rfl)
 |attr=>exact v9 hr c t h (t.lW λJ J J J J=>rfl)
 |sub=>exact v9 hr c t h (t.qA λJ J J J J=>rfl)
 |slice=>exact v9 hr c t h (t.fj λJ J J J J J J J=>rfl)
 |list=>exact v9 hr c t h (t.kZ λJ J J=>rfl)
 |Y5=>exact v9 hr c t h (t.fG λJ J J=>rfl)
 |tuple=>exact v9 hr c t h (t.eZ λJ J J J=>rfl)
 |dict=>exact v9 hr c t h (t.lM λJ J J J J=>rfl)
 |K3=>exact v9 hr c t h (t.fH λJ J J J J=>rfl)
 |comp=>exact v9 hr c t h (t.eG λJ J J J J J J J J J J=>rfl)
 |A3=>exact v9 hr c t h (t.gB λJ J J J J J J J J J=>rfl)
 |l4=>exact v9 hr c t h (t.bX λJ J J J J J J J J=>rfl)
end
end
variable {v:V}
section
variable {z:X}
theorem V9 {value slice:Ex} {o i:Value} {Ty id:String} (hT:s.TypeIs o Ty) (hl:typeLookup (.type Ty) "__getitem__"=pure (some (.builtin id)))
 (hs:∃vs,subscripted slice false o i=operate vs (getItem o i)) (h:wpAny (model T.prog T.w) A (getItem o i) Q E s):wpAny (model T.prog T.w) A (subscriptTail value slice o i) Q E s:=by
 obtain⟨vs,hs⟩:=hs
 unfold subscriptTail
 refine OL ?_
 rw[getitemInPython_of_ne hT.not_modules]
 refine OL (wpAny_specialOf hT hl ?_)
 have Y1:wpAny (model T.prog T.w) A (subscripted slice false o i) (λr w9=>wpAny (model T.prog T.w) A (letTemporaryGo value o r >>= λJ=>pure r) Q E w9) E s:=by
  rw[hs]
  exact wpAny_operating (wpAny_mono h (λr w9 T9=>OL (wpAny_letTemporaryGo (OM T9))) λJ J x=>x)
 first
  |exact OM (OL Y1)
  |exact OL (OM (OL Y1))
  |exact OL Y1
theorem uX {kd:Kd} (t:Tr T kd x e') (o i:Value):∃vs,subscripted e' false o i=operate vs (getItem o i):=
 Tr.all (G:=λe'=>∃vs,subscripted e' false o i=operate vs (getItem o i)) t (λJ J=>⟨_,rfl⟩) (λJ J J=>⟨_,rfl⟩) (λJ J J J=>⟨_,rfl⟩) (λJ J J=>⟨_,rfl⟩) (λJ J J=>⟨_,rfl⟩) (λJ J J J=>⟨_,rfl⟩) (λJ J J J=>⟨_,rfl⟩) (λJ J J=>⟨_,rfl⟩) (λJ J J=>⟨_,rfl⟩) (λJ J J=>⟨_,rfl⟩) (λJ J=>⟨_,rfl⟩) (λJ J J=>⟨_,rfl⟩) (λJ J J=>⟨_,rfl⟩) (λJ J J J=>⟨_,rfl⟩)
@[elab_as_elim] theorem zI {k:Nat} {i:Int} {j:Nat} {G:Int->Prop} (h:MK k i=some j) (g:j < k->j≤1000->G (Int.ofNat j)):G i:=
 a0 h λa e h=>i9 h λb h=>a7 b λb1 b2=>by rw[T2 e];subst h;exact g (OO b1) (OO b2)
theorem vL {a:Addr} {ws:List Value} {j:Nat} {t:Tok} {w:Value} (hl:R6 s.heap a ws) (hj:j≤1000) (e:ws[j]? =some w) (h:Q w s):wpAny (model T.prog T.w) A (getItem (.ref a) (.int (Int.ofNat j) t)) Q E s:=
 wpAny_getItem_list hl.list (Pj _) (Int.ofNat_lt.mpr (Pf hj (by decide))) ((List.getElem?_toArray ..).trans e) h
theorem qu {a:Addr} {ws:List Value} {j:Nat} {t:Tok} {w:Value} (hl:mZ s.heap a ws) (hj:j≤1000) (e:ws[j]? =some w) (h:Q w s):wpAny (model T.prog T.w) A (getItem (.ref a) (.int (Int.ofNat j) t)) Q E s:=by
 have hlt:j < ws.length:=(List.getElem?_eq_some_iff.mp e).1
 have h0:(j:Int) < 2 ^ 63:=Int.ofNat_lt.mpr (Pf hj (by decide))
 refine getItem_tuple (j:=j) hl.tup (Int.le_trans (by decide) (Pj j)) h0 ?_ ((List.getElem?_toArray ..).trans e) h
 have h1:¬((j:Int) < 0):=Int.not_lt.mpr (Pj _)
 show seqIndex? (j:Int) ws.toArray.size=some j
 unfold seqIndex?
 simp only[h1,if_false]
 rw[Pp]
 ·simp
 ·simpa using hlt
@[elab_as_elim] theorem z1.item {xs:List V} {ws:List Value} {bad:Addr->Prop} {h:Heap} {i v:V} {f7:Addr->Prop} {wi:Value} {G:Value->Prop} (q:z1 T U bad h xs ws) (hi:VR T U bad f7 h i wi) (e:jv xs i=some v) (k:∀(j:Nat) t w,j≤1000->ws[j]? =some w->solid v=true->VS T U bad h v w->G (.int (Int.ofNat j) t)):G wi:=
 a0 e λa ea e=>a0 e λj ej e=>u6 hi ea λt=>zI (G:=λa=>G (.int a t)) ej λJ hj=>q.at e λw ew g a=>k j t w hj ew g a
section
variable {value slice:Ex} {i:V} {wi:Value}
theorem V8 {xs:List V} {ws:List Value} {a:Addr} (c:d9 T W U Y s.heap) (l:R6 s.heap a ws) (q:E4 T W U s.heap xs ws) (hi:C5 T W U s.heap i wi) (hs:∀o i,∃vs,subscripted slice false o i=operate vs (getItem o i)) (e:jv xs i=some v) (h:KV T W U s Q v Y):wpAny (model T.prog T.w) A (subscriptTail value slice (.ref a) wi) Q E s:=
 z1.item q hi e λj t w hj ew g a=>V9 l.list.typeIs list_getitem_lookup (hs _ _) (vL l hj ew (KV.vs c a g h (k:=s.toks)))
theorem BY {xs:List V} {ws:List Value} {a:Addr} (c:d9 T W U Y s.heap) (l:mZ s.heap a ws) (q:E4 T W U s.heap xs ws) (hi:C5 T W U s.heap i wi) (hs:∀o i,∃vs,subscripted slice false o i=operate vs (getItem o i)) (e:jv xs i=some v) (h:KV T W U s Q v Y):wpAny (model T.prog T.w) A (subscriptTail value slice (.ref a) wi) Q E s:=
 z1.item q hi e λj t w hj ew g a=>V9 l.tup.typeIs PySem.F.slot_tuple_getitem.lookup (hs _ _) (qu l hj ew (KV.vs c a g h (k:=s.toks)))
theorem kf {K:Type} [DecidableEq K] {knd:KeyKind T.prog T.w K} {a:Addr} {kws:List (K×Value)} {k:K} {o:Option V} (c:d9 T W U Y s.heap) (hd:s.heap.DictOf knd a kws) (hk:knd.is k wi=true) (q:B1 T U (k9 T W U) s.heap o (valueAt kws k)) (hs:∀o i,∃vs,subscripted slice false o i=operate vs (getItem o i)) (e:o=some v) (h:KV T W U s Q v Y):
 wpAny (model T.prog T.w) A (subscriptTail value slice (.ref a) wi) Q E s:=
 B1.W4 (e▸q) λw ew g a=>V9 hd.typeIs PySem.F.slot_dict_getitem.lookup (hs _ _) (wpAny_getItem_of (knd:=knd) hk hd.mapOf ew (KV.vs c a g h))
theorem Jm {a:Addr} {o:O} (c:d9 T W U Y s.heap) (q:OR T W U s.heap a o) (hi:C5 T W U s.heap i wi) (hs:∀o i,∃vs,subscripted slice false o i=operate vs (getItem o i)) (e:Jn i o=some v) (h:KV T W U s Q v Y):wpAny (model T.prog T.w) A (subscriptTail value slice (.ref a) wi) Q E s:=
 i0 e (λe=>a0 e λf ef e=>a0 e λk ek e=>n8 hi ek λt J=>by
  rw[H5 ef]at q
  exact match q with|⟨kws,d,_,r,_⟩=>kf (knd:=strKind T.prog T.w) c d (isStrOf_self _ t) (r k) hs e h) λe=>
 i0 e (λe=>a0 e λf ef e=>a0 e λk ek e=>u6 hi ek λt=>by
  rw[fM ef]at q
  exact match q with|⟨kws,d,_,e1,r⟩=>kf (knd:=intKind T.prog T.w) c d (isInt_self _ t) (J8.look (key:=id) (eq:=IY) lK ⟨e1,r⟩ k) hs e h) λe=>
 a0 e λxs ex e=>by
  rw[O0 ex]at q
  exact match q with|⟨ws,l,r⟩=>V8 c l r hi hs e h
theorem FX {o:V} {wo:Value} (c:d9 T W U Y s.heap) (ho:C5 T W U s.heap o wo) (hi:C5 T W U s.heap i wi) (e:uY o i Y=some v) (hs:∀o i,∃vs,subscripted slice false o i=operate vs (getItem o i)) (h:KV T W U s Q v Y):wpAny (model T.prog T.w) A (subscriptTail value slice wo wi) Q E s:=
 i0 e (λe=>a0 e λl el e=>a0 e λob eo e=>A9 ho el λa ha=>c.at eo λa' ha' q=>Jm c (ON (ha'.symm.trans ha)▸q) hi hs e h) λe=>
 i0 e (λe=>a0 e λxs ex e=>E7 ho ex λa ws l J q=>BY c l q hi hs e h) λe=>
 i0 e (λe=>a0 e λxs ex e=>VR.z0 ho ex λa ws l J q=>V8 c l q hi hs e h) λe=>
 a0 e λkvs ek e=>a0 e λk ei e=>n8 hi ei λt J=>VR.U2 ho ek λa q=>q.Bt λkws d J r=>kf (knd:=strKind T.prog T.w) c d (isStrOf_self _ t) (r.look D2 k) hs e h
end
theorem yh (hr:g7 T n r.ev) (c:Cx T W n A env own m U Y s) (t:Tr T env.kindOf (.sub x y) e') (h:(s7 P r m (.sub x y) Y).c4 (KV T W U s Q) (XV T W U s E)):wpAny (model T.prog T.w) A (eval e' env) Q E s:=
 t.qA λJ J J t1 t2=>Subscript_ (Bw hr c t1 h λa c9 wa c5 c8 w3 va h=>Bw hr (c.mv w3) t2 h λb n9 wb l3 o7 i8 vb h=>w0 h λv e h=>FX i8.rel (i8.ext.vr va) vb e (uX t2) h)
end
section
theorem gW (n:Nat) (lo:Option Int):uu n lo=kms_lo lo n:=by
 induction lo with
 |none=>rfl
 |some i=>
  induction i with
  |negSucc k=>exact(Pp (Int.negSucc_lt_zero k)).symm
  |ofNat k=>
   show(bif Nat.ble k n then k else n)=if Int.ofNat k < 0 then n - (-Int.ofNat k).toNat else min k n
   rw[Pq (show¬(Int.ofNat k < 0)from Int.not_lt.mpr (Pj k))]
   induction q:Nat.ble k n with
   |true=>exact(Nat.min_eq_left (OO q)).symm
   |false=>exact(Nat.min_eq_right (Nat.le_of_not_le λh=>Bool.noConfusion (q.symm.trans (Pe h)))).symm
theorem pE (n:Nat) (hi:Option Int):Ft n hi=kms_hi hi n:=by
 induction hi with
 |none=>rfl
 |some i=>exact gW n (some i)
theorem bx {α:Type} (lo hi:Option Int) (l:List α):(l.drop (kms_lo lo l.length)).take (kms_hi hi l.length - kms_lo lo l.length)=cut lo hi l:=by
 unfold cut
 rw[gW,pE]
theorem z1.drop {bad:Addr->Prop} {h:Heap} (k:Nat):∀{xs:List V} {ws:List Value},z1 T U bad h xs ws->z1 T U bad h (xs.drop k) (ws.drop k):=by
 induction k with
 |zero=>exact λq=>q
 |succ k ih=>exact λq=>by cases q with
  |nil=>exact .nil
  |cons _ _ _ _ _ _ q=>exact ih q
theorem z1.take {bad:Addr->Prop} {h:Heap} (k:Nat):∀{xs:List V} {ws:List Value},z1 T U bad h xs ws->z1 T U bad h (xs.take k) (ws.take k):=by
 induction k with
 |zero=>exact λq=>.nil
 |succ k ih=>exact λq=>by cases q with
  |nil=>exact .nil
  |cons _ _ _ _ g a q=>exact .cons _ _ _ _ g a (ih q)
theorem z1.cut {bad:Addr->Prop} {h:Heap} {xs:List V} {ws:List Value} (lo hi:Option Int) (q:z1 T U bad h xs ws):z1 T U bad h (cut lo hi xs) (cut lo hi ws):=by
 unfold Mine.cut
 rw[q.length]
 exact(q.drop _).take _
theorem DO {α:Type} (lo hi:Option Int) (l:List α):(cut lo hi l).length≤l.length:=OV (List.length_take_le' ..) (List.length_drop (l:=l)▸Nat.sub_le _ _)
theorem xk {s:Txt} (h:t6 s=true) (lo hi:Option Int):t6 (cut lo hi s)=true:=
 List.all_eq_true.mpr λx hx=>List.all_eq_true.mp h x (List.mem_of_mem_drop (List.mem_of_mem_take hx))
inductive aB (w:Value) (i:Option Int):Prop
 |mk (l:Option (Int×Tok)) (h:IsPart w i) (e1:partValue l=w) (e2:l.map (·.1)=i)
theorem tD (hr:g7 T n r.ev) (c:Cx T W n A env own m U Y s) {α:Type} {K:α->Hp->Prop} {x:Option X} {e':Option Ex} {f:Option Int->Hp->R α} (t:Bn T env.kindOf x e') (h:((lJ r m x Y).bind f).c4 K (XV T W U s E))
 (k:∀i c7 w s' d7,i4 T W U s c7 d7 s'->aB w i->(f i c7).c4 K (XV T W U s E)->Q w s'):wpAny (model T.prog T.w) A (evalPart e' env) Q E s:=by
 induction t with
 |none=>exact OM (k none Y _ _ _ (i4.refl c.rel) ⟨none,.none,rfl,rfl⟩ h)
 |some x e' te=>
  rw[evalPart_some]
  exact Bx hr c te (R.d5.mp h) λv c9 w c5 c8 o hv J h=>a9 (f:=λi Y=>.ok (some i) Y) h λi e h=>u6 hv e λt=>k (some i) c9 _ c5 c8 o ⟨some (i,t),.int i t,rfl,rfl⟩ h
theorem BZ {x:Txt} {lo hi:Option Int} {a:Addr} {l u:Value} {t:Tok} (hx:x.length≤1000) (hs:s.heap.IsSliceOf a l u .none) (hl:aB l lo) (hu:aB u hi) (h:∀t' k,Q (.str (i3 (cut lo hi x)) t') {s with toks:=k}):
 wpAny (model T.prog T.w) A (getItem (.str (i3 x) t) (.ref a)) Q E s:=by
 obtain⟨l',_,e1,e2⟩:=hl
 obtain⟨u',_,e3,e4⟩:=hu
 refine wpAny_getItem_str_slice (l:=l') (u:=u') (st:=none) (by rw[←e1,←e3]at hs;exact hs) rfl ?_
 have hp:slicePicked (i3 x) l' u' none=(List.range (kms_hi hi x.length - kms_lo lo x.length)).map (kms_lo lo x.length+ ·):=by
  unfold slicePicked
  rw[e2,e4]
  have h1:Builtin.Str.strSliceIndices lo hi 1 (i3 x).length=sliceRange (sliceBounds lo hi none (i3 x).length).1 (sliceBounds lo hi none (i3 x).length).2.1 1:=rfl
  show Builtin.Str.strSliceIndices lo hi 1 (i3 x).length=_
  rw[h1,kms_bounds,sliceRange_one,K0]
 have hf:(slicePicked (i3 x) l' u' none).filterMap ((i3 x).cps[·]?)=cut lo hi x:=by
  rw[hp,pick_run]
  exact bx lo hi x
 unfold sliceMade
 split
 ·rename_i hw
  have hw:=(Bool.and_eq_true_iff.mp hw).2
  have hlen:(slicePicked (i3 x) l' u' none).length=x.length:=(beq_iff_eq.mp hw).trans (K0 x)
  have hc:cut lo hi x=x:=by
   rw[hp,OZ,List.length_range]at hlen
   rw[←bx]
   have h1:kms_hi hi x.length≤x.length:=by
    rw[←pE]
    induction hi with
    |none=>exact Pw _
    |some y=>show uy _ y≤_;rw[show uy x.length y=uu x.length (some y)from rfl,gW];unfold kms_lo;dsimp only;split<;>omega
   rw[hlen]
   by_cases h2:kms_lo lo x.length=0
   ·rw[h2,List.drop_zero,List.take_length]
   ·have:x=[]:=List.eq_nil_of_length_eq_zero (by omega)
    subst this
    rw[List.drop_nil,List.take_nil]
  rw[hc]at h
  exact h t s.toks
 ·refine⟨?_,?_⟩
  ·rw[hf]
   exact OV (DO lo hi x) (bp hx)
  ·rw[hf];exact h _ _
theorem xe {b:List Nat} {ab:Array UInt8} {lo hi:Option Int} {a:Addr} {l u:Value} {t:Tok} (hb:ab.toList.map UInt8.toNat=b) (hx:b.length≤1000) (hs:s.heap.IsSliceOf a l u .none) (hl:aB l lo) (hu:aB u hi)
 (h:∀ab' t' k,ab'.toList.map UInt8.toNat=cut lo hi b->Q (.bytes ab' t') {s with toks:=k}):
 wpAny (model T.prog T.w) A (getItem (.bytes ab t) (.ref a)) Q E s:=by
 have hsz:ab.size=b.length:=by rw[←hb,OZ];exact Array.length_toList.symm
 obtain⟨_,hl,_,_⟩:=hl
 obtain⟨_,hu,_,_⟩:=hu
 refine getItem_meets (typeIs_bytes _ _ _) (by decide) FB.slot_bytes_getitem FB.entry_bytes_getitem (FB.args_bytes_getitem_2 _ _) (KBc.meets_slice2 ab t a hl hu) ⟨hs,?_,λt' k=>h _ _ _ ?_⟩
 ·exact OV (KBc.size_picked_le ab lo hi) (hsz▸bp hx)
 ·have e1:KBy.picked ab lo hi=((ab.toList.drop (kms_lo lo ab.size)).take (kms_hi hi ab.size - kms_lo lo ab.size)).toArray:=by
   unfold KBy.picked
   rw[kms_bounds]
   show Builtin.Bytes.sliced ab ((kms_lo lo ab.size:Nat):Int) ((kms_hi hi ab.size:Nat):Int) 1=_
   unfold Builtin.Bytes.sliced
   rw[sliceRange_one,pick_run]
  rw[e1,←bx,←hsz,←hb]
  exact(List.map_take ..).trans (OY _ (List.map_drop ..))
theorem yq {ov:V} {wo wl wu:Value} {l u:Option Int} {v:V} {value:Ex} {lo' hi':Option Ex} {q:Pos} (c:d9 T W U Y s.heap) (ho:C5 T W U s.heap ov wo) (pl:aB wl l) (pu:aB wu u) (e:fk ov l u=some v) (h:KV T W U s Q v Y) {c5:Shared} (es:c5={s with heap:=s.heap.push {cls:=.type "slice",data:=.fields #[wl,wu,.none]}}):
 wpAny (model T.prog T.w) A (subscriptTail value (.Slice lo' hi' none q) wo (.ref s.heap.objs.size)) Q E c5:=by
 have o:i4 T W U s Y U c5:=es▸i4.keeps (t:=s.toks) c (g9 _ _)
 have hS:c5.heap.IsSliceOf s.heap.objs.size wl wu .none:=es▸Heap.IsSliceOf.new s.heap wl wu .none
 have h:=h.step o
 have ho:=o.ext.vr ho
 clear es
 exact i0 e (λe=>a0 e λx ex e=>i9 e λg e=>n8 ho ex λt ha=>V9 (typeIs_str _ _ _) PySem.F.slot_str_getitem.lookup ⟨_,rfl⟩ (BZ (OO g) hS pl pu λt' i=>KV.str o.rel (xk ha l u) (e▸h))) λe=>
 i0 e (λe=>a0 e λx ex e=>i9 e λg e=>F6 ho ex λab t hb=>V9 (typeIs_bytes _ _ _) FB.slot_bytes_getitem.lookup ⟨_,rfl⟩ (xe hb (OO g) hS pl pu λab' t' i he=>KV.G4 o.rel (.bytes _ ab' t' he) rfl (e▸h))) λe=>
 a0 e λxs ex e=>i9 e λg e=>VR.z0 ho ex λa ws hl J q=>match pl,pu with
  |⟨_,pl,_,_⟩,⟨_,pu,_,_⟩=>V9 hl.list.typeIs list_getitem_lookup ⟨_,rfl⟩ (wpAny_getItem_list_slice hl.list hS pl pu .none (by simp) (by rw[kms_pick_eq];exact KV.newList o.rel (bx l u ws▸q.cut l u) (e▸h)) (by rw[Ph,q.length];exact u7 g))
theorem qH (hr:g7 T n r.ev) (c:Cx T W n A env own m U Y s) {lo hi:Option X} (t:Tr T env.kindOf (.slice x lo hi) e') (h:(s7 P r m (.slice x lo hi) Y).c4 (KV T W U s Q) (XV T W U s E)):wpAny (model T.prog T.w) A (eval e' env) Q E s:=
 t.fj λJ J J J J t1 t2 t3=>Subscript_ (Bw hr c t1 h λov c9 wo c5 c8 w3 vo h=>wpAny_Slice (tD hr (c.mv w3) t2 h λl n9 wl l3 o7 i8 pl h=>tD hr ((c.mv w3).mv i8) t3 (c4.step i8 h λJ J q=>q.step i8) λu Eu wu w9 Jb ko pu h=>by
  rw[evalPart_none]
  exact OM (w0 h λv e h=>yq ko.rel ((i8.trans ko).ext.vr vo) pl pu e (h.step ko) rfl)))
end
structure bM (ds:List Addr) (h h':Heap):Prop where
 off:Off (λa=>a∈ds) h h'
 there:∀a o,h.get? a=some o->∃o',h'.get? a=some o'
theorem bM.refl {ds:List Addr} {h:Heap}:bM ds h h:=⟨Off.refl _ _,λJ o e=>⟨o,e⟩⟩
theorem ic.refl {s:Shared}:ic s s:=⟨rfl,rfl,rfl⟩
variable {ds:List Addr}
section
variable {c5 l3 w9:Shared} {pub:List Addr} {os:List O}
theorem Cx.adopt {h':Heap} {t:Nat} (c:Cx T W n A env own m U Y s) (k:∀a o,s.heap.get? a=some o->h'.get? a=some o) (hn:∀d,d∈ds->s.heap.get? d=none) (hy:∀d,d∈ds->∃o,h'.get? d=some o):Cx T (W.add ds) n A env own m U Y {s with heap:=h',toks:=t}:=
 c.grow (i4.keeps c.rel k) (s8.add hn) (c.rel.adopt k hn hy)
theorem dP (hsub:∀d,d∈pub->d∈ds) {a:Addr} (q:k9 T W (U++pub) a):k9 T (W.add ds) U a:=
 q.elim (λq=>(Px q).elim .inl λq=>.inr (.inr (.inl (OQ _ (hsub a q))))) λq=>.inr (q.imp id λq=>q.imp (OS _) id)
theorem aP {i:Nat} {a:Addr} (e:U[i]? =some a):(U++pub)[i]? =some a:=(Pn (List.getElem?_eq_some_iff.mp e).1).trans e
theorem km {h h':Heap} (b:Off (λa=>a∈ds) h h') (hsub:∀d,d∈pub->d∈ds):Ms U (U++pub) (k9 T (W.add ds) U) (k9 T W (U++pub)) (λa=>a∈ds) h h':=
 ⟨λJ J e=>aP e,b,λa J J q=>.inr (.inr (.inl (OQ _ q))),λa J J q=>dP hsub q⟩
theorem i4.kl (c:d9 T W U Y s.heap) (k:∀a o,s.heap.get? a=some o->c5.heap.get? a=some o) (hn:∀d,d∈ds->s.heap.get? d=none) (hg:ic s c5) (o:i4 T (W.add ds) U c5 c7 d7 l3) (b:bM ds l3.heap w9.heap) (hg':ic l3 w9)
 (hsub:∀d,d∈pub->d∈ds) (hnd:pub.Nodup) (hlen:pub.length=os.length) (hO:∀(i:Nat) (ob:O) (a:Addr),os[i]? =some ob->pub[i]? =some a->OR T W (d7++pub) w9.heap a ob):i4 T W U s (c7++os) (d7++pub) w9:=
 have ms:=km (T:=T) (W:=W) (U:=d7) b.off hsub
 have nm:∀d,d∈ds->¬A7 T (W.add ds) d7 d:=λd hd=>(o.rel.o5.own d (OQ _ hd)).nm
 have nd:∀a ob,s.heap.get? a=some ob->a∉ds:=λa ob e q=>d0 (hn a q) e
 {ext:={
  pre:=λi a e=>aP (o.ext.pre i a e)
  new:=λa ha=>(Px ha).elim (λq=>(o.ext.new a q).imp id λq=>by
   cases e:s.heap.get? a with
   |none=>rfl
   |some ob=>exact d0 q (k a ob e)) λq=>.inr (hn a (hsub a q))
  off:=λa ob e q=>b.off a ob (o.ext.off a ob (k a ob e) q) (nd a ob e)
  there:=λa ob e=>(o.ext.there a ob (k a ob e)).elim (b.there a)
  slots:=λa ha ob e=>(o.ext.slots a ha ob (k a ob e)).elim λsl e'=>⟨sl,b.off a _ e' (nd a ob e)⟩
  gens:=hg'.gens.trans (o.ext.gens.trans hg.gens)
  os:=hg'.os.trans (o.ext.os.trans hg.os)
  drawn:=hg'.drawn.trans (o.ext.drawn.trans hg.drawn)}
  rel:={
   len:=(List.length_append ..).trans ((congr (OY HAdd.hAdd o.rel.len) hlen).trans (List.length_append ..).symm)
   nodup:=List.nodup_append.mpr ⟨o.rel.nodup,hnd,λa ha b hb e=>nm b (hsub b hb) (.inl (e▸ha))⟩
   objs:=λi ob a h1 h2=>by
    by_cases hi:i < c7.length
    ·rw[Pn hi]at h1
     rw[Pn (o.rel.len.symm▸hi)]at h2
     exact OR.ms ms (b.off.at λq=>nm a q (.inl (Q1 h2))) (o.rel.objs i ob a h1 h2)
    ·rw[List.getElem?_append_right (Pr hi)]at h1
     rw[List.getElem?_append_right (o.rel.len.symm▸Pr hi),o.rel.len]at h2
     exact hO _ ob a h1 h2
   base:=λa ob e=>b.off a ob (o.rel.base a ob e) λq=>d0 (hn a q) (c.base a ob e)
   fresh:=λa q=>o.rel.fresh a (dP hsub q)
   o5:=⟨λa ha=>⟨λz=>z.elim (λz=>(Px z).elim (λz=>(o.rel.o5.own a (OS _ ha)).nm (.inl z)) λz=>(c.o5.own a ha).ex.elim λob e=>nd a ob e (hsub a z)) λz=>(o.rel.o5.own a (OS _ ha)).nm (.inr z),
    (o.rel.o5.own a (OS _ ha)).ex.elim λob e=>b.there a ob e⟩,
    λa ha=>⟨λz=>(Px z).elim (o.rel.o5.l6 a ha).nr λz=>nm a (hsub a z) (.inr (.inl ha)),(o.rel.o5.l6 a ha).nt,(o.rel.o5.l6 a ha).ex.elim λob e=>b.there a ob e⟩⟩
   tabs:=λP hP=>(o.rel.tabs P hP).move ms.off (λq=>nm P q (.inr (.inr hP))) ms.sb ms.bb}}
theorem i4.Mn (c:d9 T W U Y s.heap) (k:∀a o,s.heap.get? a=some o->c5.heap.get? a=some o) (hn:∀d,d∈ds->s.heap.get? d=none) (hg:ic s c5) (o:i4 T (W.add ds) U c5 c7 d7 l3) (b:bM ds l3.heap w9.heap) (hg':ic l3 w9):i4 T W U s c7 d7 w9:=by
 have:=i4.kl (pub:=[]) (os:=[]) c k hn hg o b hg' (λJ q=>nomatch q) List.nodup_nil rfl λJ J J h1 J=>nomatch h1
 rwa [Pl,Pl]at this
theorem Cf {h h':Heap} (b:Off (λa=>a∈ds) h h'):Ms U U (k9 T (W.add ds) U) (k9 T W U) (λa=>a∈ds) h h':=⟨λJ J e=>e,b,λa J J q=>.inr (.inr (.inl (OQ _ q))),λa J J q=>q.imp id λq=>q.imp id λq=>q.imp (OS _) id⟩
theorem rb {a:Addr} {o:O} {G:Addr->O->Prop} (g:G a o) (i:Nat) (ob:O) (b:Addr) (h1:[o][i]? =some ob) (h2:[a][i]? =some b):G b ob:=by
 induction i with
 |zero=>cases h1;cases h2;exact g
 |succ i=>exact nomatch h1
theorem i4.ct {ob:Obj} {o:O} (c:d9 T W U Y s.heap) (hf:ob.isFreed=false) (hO:Ms U (U++[s.heap.objs.size]) (k9 T W U) (k9 T W (U++[s.heap.objs.size])) (λJ=>False) s.heap (s.heap.push ob)->OR T W (U++[s.heap.objs.size]) (s.heap.push ob) s.heap.objs.size o):
 i4 T W U s (Y++[o]) (U++[s.heap.objs.size]) {s with heap:=s.heap.push ob}:=
 i4.kl (c5:={s with heap:=s.heap.push ob}) c (g9 s.heap ob) (y9 _) ⟨rfl,rfl,rfl⟩ (i4.refl (c.adopt (g9 s.heap ob) (y9 _) (O2 hf))) bM.refl ic.refl (λJ q=>q) (List.nodup_cons.mpr ⟨nofun,List.nodup_nil⟩) rfl
  (rb (hO ⟨λJ J e=>aP e,Off.of_keeps (g9 _ _),λJ J J q=>q.elim,λa ob e q=>(R1 (dP (λJ q=>q) q)).elim (λq=>d0 (y9 _ a q) e) id⟩))
theorem KV.ct (c:d9 T W U Y s.heap) {ob:Obj} {o:O} (hf:ob.isFreed=false) (hO:Ms U (U++[s.heap.objs.size]) (k9 T W U) (k9 T W (U++[s.heap.objs.size])) (λJ=>False) s.heap (s.heap.push ob)->OR T W (U++[s.heap.objs.size]) (s.heap.push ob) s.heap.objs.size o)
 (h:KV T W U s Q (.loc Y.length) (Y++[o])):Q (.ref s.heap.objs.size) {s with heap:=s.heap.push ob}:=
 h _ _ _ (i4.ct c hf hO) (.mk _ _ (.loc _ _ (c.len▸List.getElem?_concat_length ..))) (G1.not rfl)
end
section
variable {bad:Addr->Prop}
theorem J8.qL {ds:List (Txt×V)} {es:List (Str×Value)} (y:J8 T U bad h i3 ds es):∀{kvs:List (Txt×V)} {kws:List (Str×Value)},J8 T U bad h i3 kvs kws->J8 T U bad h i3 (z7 kvs ds) (merged kws es):=
 y.aO (Q:=λds es=>∀{kvs:List (Txt×V)} {kws:List (Str×Value)},J8 T U bad h i3 kvs kws->J8 T U bad h i3 (z7 kvs ds) (merged kws es)) (λx=>x) λp w r es g a J ih J J x=>ih (x.set D2 g a)
inductive Lm (T:i7) (W:r9) (U:List Addr) (h:Heap):List (V×V)->List (Value×Value)->Prop
 |nil:Lm T W U h [] []
 |cons (p:V×V) (kw w:Value) (vs:List (V×V)) (ws:List (Value×Value)):C5 T W U h p.1 kw->C5 T W U h p.2 w->Lm T W U h vs ws->Lm T W U h (p::vs) ((kw,w)::ws)
inductive Carried (T:i7) (W:r9) (U:List Addr) (h:Heap) (ds:List (Txt×V)) (wps:List (Value×Value)):Prop
 |mk (kws:List (Str×Value)) (c:Carries (strKind T.prog T.w) wps kws) (r:J8 T U (k9 T W U) h i3 ds kws)
theorem si {ps:List (V×V)} {wps:List (Value×Value)} (x:Lm T W U h ps wps):∀{ds:List (Txt×V)},dictOf ps=some ds->Carried T W U h ds wps:=by
 induction x with
 |nil=>exact λe=>by cases e;exact⟨[],trivial,.nil⟩
 |cons p kw w vs ws a b q ih=>
  exact λe=>a0 e λk ek e=>a0 e λv ev e=>d8 e λds ed e=>n8 a ek λt J=>match ih ed,C2 ev b with
   |⟨kws,c,r⟩,⟨g,hv⟩=>e▸⟨(i3 k,w)::kws,⟨isStrOf_self _ t,rfl,c⟩,J8.cons (p:=(k,v)) g hv r⟩
theorem HO {α:Type} {K:α->Hp->Prop} {X':Txt->Hp->Prop} (hr:g7 T n r.ev) (c:Cx T W n A env own m U Y s) {Q:Value->Shared->Prop} {f:V->Hp->R α} (t:Tr T env.kindOf x e') (h:((r.ev m x Y).z6.bind f).c4 K X')
 (k:∀v c9 w c5 c8,i4 T W U s c9 c8 c5->C5 T W c8 c5.heap v w->G1 T W s c8 c9 c5.heap v w->(f v c9).c4 K X'->Q w c5):wpAny (model T.prog T.w) A (eval e' env) Q E s:=
 hr c t (R.c4.mono (R.J5 (R.d5.mp h)) (λv c9 q w c5 c8 o hv hf=>k v c9 w c5 c8 o hv hf q) λJ J x=>x.elim)
theorem yO (hr:g7 T n r.ev) {pos:Pos} {kvs:List (X×X)} {ks vs:List Ex} {X':Txt->Hp->Prop} (t:BD T env.kindOf kvs ks vs):∀{U:List Addr} {Y:Hp} {s:Shared} {Q:List (Value×Value)->Shared->Prop},Cx T W n A env own m U Y s->
 (br r m kvs Y).c4 (λps c7=>∀wps s' d7,i4 T W U s c7 d7 s'->Lm T W d7 s'.heap ps wps->Q wps s') X'->wpAny (model T.prog T.w) A (evalPairs (pairTrees (ks.map some) vs env pos)) Q E s:=by
 induction t with
 |nil=>exact λc h=>evalPairs_nil (h _ _ _ (i4.refl c.rel) .nil)
 |cons q k e xs ks es tk te ts ih=>
  exact λc h=>evalPairs_cons (HO hr c tk h λkv c9 kw c5 c8 w3 vk J h=>OL (HO hr (c.mv w3) te h λv n9 w l3 o7 i8 vv J h=>OL (Pk (OM (ih ((c.mv w3).mv i8) (R.c4.mono (R.d5.mp h) (λps Eu h wps w9 Jb ko r=>
   h _ _ _ (w3.trans (i8.trans ko)) (.cons _ _ _ _ _ ((i8.trans ko).ext.vr vk) (ko.ext.vr vv) r)) λJ J x=>x))))))
theorem BD.MA {kd:Kd} {kvs:List (X×X)} {ks vs:List Ex} (t:BD T kd kvs ks vs):ks.length=kvs.length∧vs.length=kvs.length:=by
 induction t with
 |nil=>exact⟨rfl,rfl⟩
 |cons _ _ _ _ _ _ _ _ _ ih=>exact⟨OY (· +1) ih.1,OY (· +1) ih.2⟩
theorem iq {a:Addr} {h h':Heap} (x:Heap.SameBut a h h') {o:Obj} (e:h'.get? a=some o):bM [a] h h':=
 ⟨λb o e n=>(x.2 b (λq=>n (q▸.head _))).trans e,λb o' e'=>by
  by_cases q:b=a
  ·exact⟨o,q▸e⟩
  ·exact⟨o',(x.2 b q).trans e'⟩⟩
theorem O1 (tk:E5 T P) (c:d9 T W U Y h):(h.objs.size == sysModules)=false:=
 match tk.tI with|⟨_,hn,_⟩=>beq_eq_false_iff_ne.mpr (Nat.ne_of_gt (Nat.lt_trans (by decide) (A2 c.base hn).lt))
theorem jO (hr:g7 T n r.ev) (c:Cx T W n A env own m U Y s) {α:Type} {K:α->Hp->Prop} {X':Txt->Hp->Prop} {i:Nat} {f:List (Txt×V)->Hp->R α} {kvs:List (X×X)} {ks vs:List Ex} {p:Pos} {Q:Value->Shared->Prop} (t:BD T env.kindOf kvs ks vs) (hl:kvs.length≤15) (h0:kvs≠[])
 (h:((br r m kvs Y).bind λps Y=>(b8 i (dictOf ps) Y).bind f).c4 K X')
 (k:∀ds c7 l3 w9 d7 kws,i4 T (W.add [s.heap.objs.size]) U {s with heap:=s.heap.push {cls:=.type "dict",data:=.dict #[]}} c7 d7 l3->bM [s.heap.objs.size] l3.heap w9.heap->ic l3 w9->J8 T d7 (k9 T (W.add [s.heap.objs.size]) d7) l3.heap i3 (z7 [] ds) kws->
  w9.heap.DictOf (strKind T.prog T.w) s.heap.objs.size kws->(f ds c7).c4 K X'->Q (.ref s.heap.objs.size) w9):wpAny (model T.prog T.w) A (eval (.Dict (ks.map some) vs p) env) Q E s:=by
 have hls:=t.MA
 have hall:(ks.map some).all (·.isSome)=true:=List.all_eq_true.mpr λx hx=>match List.mem_map.mp hx with|⟨_,_,e⟩=>e▸rfl
 have hlen:(ks.map some).length=vs.length:=(OZ ..).trans (hls.1.trans hls.2.symm)
 have hpl:(pairTrees (ks.map some) vs env p).length=kvs.length:=(pairTrees_length _ vs env p hall hlen).trans ((OZ ..).trans hls.1)
 have c':=c.adopt (t:=s.toks) (g9 s.heap {cls:=.type "dict",data:=.dict #[]}) (y9 _) (O2 rfl)
 exact wpAny_Dict_pairs (knd:=strKind T.prog T.w) (pairs:=pairTrees (ks.map some) vs env p) (zip_pairTrees _ _ _ _ hall hlen) (λe=>h0 (List.eq_nil_of_length_eq_zero (hpl.symm.trans (e▸rfl)))) (hpl▸hl)
  (yO hr t c' (R.c4.mono (R.d5.mp h) (λps c7 h wps l3 d7 o q=>a9 h λds e h=>match si q e with
   |⟨kws,h1,h2⟩=>⟨kws,h1,v3 (strKind T.prog T.w) (n:=0) (o.ext.off _ _ (OU _ rfl) (c'.rel.o5.own _ (.head _)).nm),λh' hd hs=>(l9 hd).elim λod hd'=>k ds c7 l3 _ d7 (merged [] kws) o (iq hs hd') ⟨rfl,rfl,rfl⟩ (h2.qL .nil) hd h⟩) λJ J x=>x))
theorem J8.uq {kvs:List (Txt×V)} {kws:List (Str×Value)} {a:Addr} (q:J8 T U bad h i3 kvs kws) (hd:h.DictOf (strKind T.prog T.w) a kws) (hs:(a == sysModules)=false):V1 T U bad h kvs a:=⟨kws,hd,hs,q.e,q.r⟩
theorem KV.newDict (tk:E5 T P) {l3 w9:Shared} {c7:Hp} {d7:List Addr} {ds:List (Txt×V)} {kws:List (Str×Value)} (c:d9 T W U Y s.heap) (o:i4 T (W.add [s.heap.objs.size]) U {s with heap:=s.heap.push {cls:=.type "dict",data:=.dict #[]}} c7 d7 l3) (b:bM [s.heap.objs.size] l3.heap w9.heap) (hg:ic l3 w9)
 (q:J8 T d7 (k9 T (W.add [s.heap.objs.size]) d7) l3.heap i3 ds kws) (hd:w9.heap.DictOf (strKind T.prog T.w) s.heap.objs.size kws) (h:KV T W U s Q (.E2 ds) c7):Q (.ref s.heap.objs.size) w9:=
 have tt:qc (W.add [s.heap.objs.size]) (λb=>b∈[s.heap.objs.size]) l3.heap w9.heap:=⟨b.off,b.there,λd hd=>.inr (OQ _ hd),λd hf hd=>absurd (.inr (.inl hf)) (o.rel.o5.own d (OQ _ hd)).nm⟩
 have q':=q.ms (Cf (T:=T) (W:=W) (U:=d7) b.off)
 h _ _ _ (i4.Mn (c5:={s with heap:=s.heap.push {cls:=.type "dict",data:=.dict #[]}}) c (g9 _ _) (y9 _) ⟨rfl,rfl,rfl⟩ o b hg)
  (.mk _ _ (.mX _ ds _ kws rfl rfl hd (O1 tk c) (λhb=>hb.elim (λz=>(o.rel.o5.own _ (.head _)).nm (.inl z)) λz=>c.N3 (none_at_size _) (.inr z)) q'.e q'.r))
  λJ=>⟨_,W.add [s.heap.objs.size],none_at_size _,s8.add (y9 _),.head _,o.rel.turn tt,.d ds ((q.ms tt.ms).uq hd (O1 tk c))⟩
theorem wF (tk:E5 T P) (hr:g7 T n r.ev) (c:Cx T W n A env own m U Y s) {kvs:List (X×X)} (t:Tr T env.kindOf (.dict kvs) e') (h:(s7 P r m (.dict kvs) Y).c4 (KV T W U s Q) (XV T W U s E)):wpAny (model T.prog T.w) A (eval e' env) Q E s:=
 t.lM λks es p t1 hl=>by
  induction t1 with
  |nil=>exact wpAny_Dict_empty (KV.newDict tk c.rel (i4.refl (c.adopt (t:=s.toks) (g9 _ _) (y9 _) (O2 rfl)).rel) bM.refl ic.refl .nil (v3 (strKind T.prog T.w) (n:=0) (OU _ rfl)) h)
  |cons q k e xs ks es tk' te ts=>exact jO hr c (.cons q k e xs ks es tk' te ts) hl nofun h λds c7 l3 w9 d7 kws o b hg q hd h=>KV.newDict tk c.rel o b hg q hd h
theorem BO {kvs:List (Txt×V)} {kws:List (Str×Value)} (q:J8 T U bad h i3 kvs kws):kvs.all (λp=>T.univ.any (r5 p.1))=true->∀p∈kws,∃k∈T.univ,p.1=i3 k:=
 q.aO (Q:=λkvs kws=>kvs.all (λp=>T.univ.any (r5 p.1))=true->∀p∈kws,∃k∈T.univ,p.1=i3 k) (λJ J q=>nomatch q) λp w r es J J J ih hu p' hp=>a7 hu λh1 h2=>(OW hp).elim (λe=>match List.any_eq_true.mp h1 with|⟨u,hu,e2⟩=>⟨u,hu,by rw[e,D1.mp e2]⟩) (ih h2 p')
theorem vl {kvs:List (Txt×V)} {k:Txt} {v:V} {f:Txt->Bool} (h:kvs.all (λp=>f p.1)=true) (hk:f k=true):(Cj kvs k v).all (λp=>f p.1)=true:=by
 have h:=List.all_eq_true.mp h
 refine List.all_eq_true.mpr λp hp=>?_
 unfold Cj qK at hp
 induction q:kvs.any λp=>r5 p.1 k with
 |true=>
  rw[q]at hp
  obtain⟨a,ha,e⟩:=List.mem_map.mp hp
  have:p.1=a.1:=by rw[←e];induction r5 a.1 k<;>rfl
  rw[this];exact h a ha
 |false=>
  rw[q]at hp
  exact(Px hp).elim (h p) λz=>(OX z)▸hk
theorem nN {ds:List (Txt×V)} {f:Txt->Bool}:∀{kvs:List (Txt×V)},ds.all (λp=>f p.1)=true->kvs.all (λp=>f p.1)=true->(z7 kvs ds).all (λp=>f p.1)=true:=by
 induction ds with
 |nil=>exact λJ h=>h
 |cons p r ih=>exact λhd h=>a7 hd λh1 h2=>ih h2 (vl h h1)
theorem qW (tk:E5 T P) (hr:g7 T n r.ev) (c:Cx T W n A env own m U Y s) {kvs:List (X×X)} (t:Tr T env.kindOf (.K3 kvs) e') (h:(s7 P r m (.K3 kvs) Y).c4 (KV T W U s Q) (XV T W U s E)):wpAny (model T.prog T.w) A (eval e' env) Q E s:=
 t.fH λks es p t1 hl=>by
  induction t1 with
  |nil=>exact wpAny_Dict_empty (KV.ct (o:=.emp) c.rel rfl (λJ=>⟨0,O1 tk c.rel,OU _ rfl⟩) h)
  |cons q k e xs ks es tk' te ts=>
   exact jO hr c (.cons q k e xs ks es tk' te ts) hl nofun h λds c7 l3 w9 d7 kws o b hg q hd h=>a9 h λJ e h=>i9 e λg J=>by
    have q':=q.ms (km (T:=T) (W:=W) (pub:=[s.heap.objs.size]) b.off (λJ q=>q))
    rw[tk.fF]at g
    exact h _ _ _ (i4.kl (c5:={s with heap:=s.heap.push {cls:=.type "dict",data:=.dict #[]}}) c.rel (g9 _ _) (y9 _) ⟨rfl,rfl,rfl⟩ o b hg (λJ q=>q) (List.nodup_cons.mpr ⟨nofun,List.nodup_nil⟩) rfl
     (rb (o:=.map (bc (z7 [] ds))) ⟨kws,hd,O1 tk c.rel,q'.look D2,BO q' (nN (f:=λk=>T.univ.any (r5 k)) g rfl)⟩)) (.mk _ _ (.loc _ _ (o.rel.len▸List.getElem?_concat_length ..))) (G1.not rfl)
theorem qV (hr:g7 T n r.ev) (c:Cx T W n A env own m U Y s) {es:List X} (t:Tr T env.kindOf (.Y5 es) e') (h:(s7 P r m (.Y5 es) Y).c4 (KV T W U s Q) (XV T W U s E)):wpAny (model T.prog T.w) A (eval e' env) Q E s:=
 t.fG λJ J t1=>wpAny_List_spliced (gM hr t1 c (R.c4.mono (R.d5.mp h) (λvs c9 h ws c5 c8 o q=>a9 h λus e h=>i9 e λg e=>
  ⟨by rw[q.length];exact u7 g,KV.ct (o:=.list us) o.rel rfl (λms=>⟨ws,⟨_,OU _ rfl⟩,e▸q.ms ms⟩) (KV.step o h)⟩) λJ J x=>x))
end
section
theorem qX {es:List DictEntry} {kws:List (Str×Value)} {prog:Program} {w:World} (x:Pairs (strKind prog w) es kws) (OK:Str):(es.find? (·.key.isStr OK)).map (·.val)=valueAt kws OK:=by
 induction x with
 |nil=>rfl
 | @cons e kv es kvs h1 h2 _ ih=>
  obtain⟨t,ht⟩:=Value.isStrOf_shape h1
  have hk:e.key.isStr OK=(kv.1 == OK):=by rw[ht];rfl
  rw[show kv=(kv.1,kv.2)from rfl,i6,List.find?_cons,hk]
  by_cases q:kv.1=OK
  ·rw[Pp q,beq_iff_eq.mpr q];exact OY some h2
  ·rw[Pq q,beq_eq_false_iff_ne.mpr q];exact ih
theorem cX {es:List DictEntry} {kws:List (Str×Value)} {prog:Program} {w:World} (x:Pairs (strKind prog w) es kws):es.any (·.refKey)=false:=by
 induction x with
 |nil=>rfl
 | @cons e kv es kvs h1 h2 _ ih=>
  obtain⟨t,ht⟩:=Value.isStrOf_shape h1
  rw[List.any_cons,ih]
  unfold DictEntry.refKey
  rw[ht];rfl
theorem cw {dx:Addr} {kws:List (Str×Value)} (hd:h.DictOf (strKind T.prog T.w) dx kws) (OK:Str):∃o,h.get? dx=some o∧lookIn OK o=some (valueAt kws OK):=by
 obtain⟨o,es,ep,e,_,hdat,_,hp,_⟩:=hd
 refine⟨o,e,?_⟩
 unfold lookIn
 rw[hdat]
 dsimp only
 rw[←qX hp OK]
 induction es.toList.find? (·.key.isStr OK)with
 |none=>dsimp only;rw[cX hp];rfl
 |some e=>rfl
theorem rL (tk:E5 T P) {v:V} {w:Value} (x:bN T v w):handedIn w=true:=
 bN.rec (motive:=λJ w J=>handedIn w=true) rfl (λJ=>rfl) (λJ J=>rfl) (λJ J J=>rfl) (λJ J J J=>rfl) (λJ J J=>rfl) (λJ J J=>rfl) (λb=>tk.bi b) x
theorem vW (tk:E5 T P) {v:V} {w:Value} {bad:Addr->Prop} (x:VS T U bad h v w):handedIn w=true:=by
 cases x with
 |G4 _ _ x=>exact rL tk x
 |_=>rfl
theorem k7 (tk:E5 T P) (c:d9 T W U Y h):T.K.In h:=tk.vO.keeps c.base
theorem jX (tk:E5 T P) (c:d9 T W U Y s.heap) {k:Nat} {C a dx:Addr} {kws:List (Str×Value)} {OK:Str} {v:V} {o:Option V} {expr:Bool} (hn:OK∈T.AF) (hC:T.cls k=some C) (ha:s.heap.get? a=some ⟨.ref C,some dx,.plain,#[]⟩)
 (hd:s.heap.DictOf (strKind T.prog T.w) dx kws) (q:B1 T U (k9 T W U) s.heap o (valueAt kws OK)) (e:o=some v) (h:KV T W U s Q v Y):wpAny (model T.prog T.w) A (getAttr (.ref a) OK expr) Q E s:=
 B1.W4 (e▸q) λw ew g r=>(cw hd OK).elim λo z=>get_value (k7 tk c) (C:=C) (ox:=⟨.ref C,some dx,.plain,#[]⟩) (od:=some o) ⟨ha,rfl,rfl,z.1⟩ (plainGet_of (tk.af _ hn k C hC).g).1 (findObj_own (tk.af _ hn k C hC).d (tk.af _ hn k C hC).f rfl (z.2.trans (OY some ew))) (vW tk r) (KV.vs c r g h)
theorem P1 {o:Ex} {attr:Str} {whole:Sem Value} {M:Model} (hn:I1 o=true) (hw:wpAny M A whole Q E s):wpAny M A (attributeBase o attr env whole) Q E s:=by
 cases o with
 |Call f a k p=>cases f with
  |Name id q=>induction a with
   |nil=>induction k with
    |nil=>have hn:(id !=("super":Str))=true:=hn;unfold attributeBase;dsimp only;rw[hn];exact hw
    |cons=>exact hw
   |cons=>exact hw
  |_=>exact hw
 |_=>exact hw
theorem X0 (tk:E5 T P) (a b:Nat):Nat.beq a b=decide (T.nm a=T.nm b):=by
 cases e:Nat.beq a b with
 |true=>rw[Pc e,decide_eq_true rfl]
 |false=>exact(decide_eq_false λq=>by rw[tk.rR _ _ q,Nat.beq_refl]at e;exact Bool.noConfusion e).symm
inductive Lq (T:i7) (W:r9) (U:List Addr) (h:Heap) (d:Nat) (f:Txt->Option V) (a:Addr):Prop
 |mk (k:Nat) (C dx:Addr) (hC:T.cls k=some C) (ha:h.get? a=some ⟨.ref C,some dx,.plain,#[]⟩) (hd:U[d]? =some dx) (q:IH T W U h dx f)
@[elab_as_elim] theorem gu (c:d9 T W U Y h) {o:V} {wo:Value} {q:Nat×(Txt->Option V)} {G:Value->Prop} (ho:C5 T W U h o wo) (e:dY o Y=some q) (k:∀a,Y[q.1]? =some (.map q.2)->Lq T W U h q.1 q.2 a->G (.ref a)):G wo:=
 a0 e λi ei e=>a0 e λob eo e=>a0 e λu eu e=>a0 e λod ed e=>d8 e λf ef e=>A9 ho ei λa ha=>by
  rw[oi eu]at eo
  rw[H5 ef]at ed
  subst e
  refine k a ed (c.at eo λa' ha' z=>match z with|⟨C,dx,hC,hd,g⟩=>c.at ed λdx' hd' z=>⟨_,C,dx,hC,(ON (ha'.symm.trans ha))▸g,hd,(ON (hd'.symm.trans hd))▸z⟩)
theorem Eg (tk:E5 T P) (c:d9 T W U Y s.heap) {o v:V} {wo:Value} {a:Nat} (ho:C5 T W U s.heap o wo) (e:FC o a P Y=some v) (hf:T.nm a∈T.AF) {expr:Bool} (h:KV T W U s Q v Y):wpAny (model T.prog T.w) A (getAttr wo (T.nm a) expr) Q E s:=
 i0 e (λe=>a0 e λq eq e=>kB ho eq λad i=>match i with|⟨C,dx,kws,hC,ha,_,hd,_,e1,r⟩=>jX tk c hf hC ha hd (J8.look (key:=T.nm) (eq:=Nat.beq) (X0 tk) ⟨e1,r⟩ a) e h) λe=>
 a0 e λq eq e=>a0 e λnm en e=>gu c ho eq λad J i=>match i with|⟨k,C,dx,hC,ha,_,⟨kws,hd,_,q,_⟩⟩=>jX tk c hf hC ha hd (tk.LJ a nm en▸q nm) e h
theorem xj (tk:E5 T P) (hr:g7 T n r.ev) (c:Cx T W n A env own m U Y s) {a:Nat} (t:Tr T env.kindOf (.attr x a) e') (h:(s7 P r m (.attr x a) Y).c4 (KV T W U s Q) (XV T W U s E)):wpAny (model T.prog T.w) A (eval e' env) Q E s:=
 t.lW λo p t1 hs hf=>by
  rw[arm_eval_Attribute]
  exact OL (P1 hs (Bw hr c t1 h λov c9 wo c5 c8 w3 vo h=>w0 h λv e h=>OL (Pk (OL (Pd (Eg tk w3.rel vo e hf λw l3 o7 i8 hv hw=>OL (wpAny_letTemporaryGo (OM (h w l3 o7 i8 hv hw)))))))))
end
structure Fx (T:i7) where
 A:Around
 env:Env
 W0:r9
 Z4:List Addr
 s0:Shared
 H:List (Addr×Obj×Bool)
 Hv:List (V×Value)
structure Zt where
 W:r9
 own:List (Nat×Addr)
 U:List Addr
 s:Shared
noncomputable abbrev Zt.to (z:Zt) (U:List Addr) (s:Shared):Zt:=⟨z.W,z.own,U,s⟩
noncomputable abbrev Zt.hp (z:Zt) (h:Heap) (t:Nat):Zt:=⟨z.W,z.own,z.U,{z.s with heap:=h,toks:=t}⟩
structure St {T:i7} (F:Fx T) (W:r9) (own:List (Nat×Addr)):Prop where
 v5:In F.W0 W F.s0
 inj:∀x y a,(x,a)∈own->(y,a)∈own->x=y
 aR:∀x a,(x,a)∈own->F.s0.heap.get? a=none
 O4:F.s0.heap.get? F.env.locals=none
 cD:∀x a y c,(x,a)∈own->F.env.cells.lookup y=some c->a≠c
 aw:∀y c,F.env.cells.lookup y=some c->c∈W.own
 old:∀a,a∈F.W0.own->∃o,F.s0.heap.get? a=some o
structure kc {T:i7} (F:Fx T):Prop where
 wQ:∀x c,F.env.cells.lookup x=some c->F.s0.heap.get? c=none
 DT:∀x y c,F.env.cells.lookup x=some c->F.env.cells.lookup y=some c->x=y
structure sM {T:i7} (F:Fx T) (z:Zt) (a:Addr) (o:Obj) (b:Bool):Prop where
 at_:z.s.heap.get? a=some o
 nm:¬A7 T z.W z.U a
 nn:∀x,(x,a)∉z.own
 nc:∀y,F.env.cells.lookup y≠some a
 own:b=true->a∈z.W.own
 nb:b=false->¬k9 T z.W z.U a
structure Lr {T:i7} (F:Fx T) (z:Zt) (v:V) (w:Value):Prop where
 g:solid v=true
 r:eP T z.W z.U z.s.heap v w
structure Hd {T:i7} (F:Fx T) (z:Zt):Prop where
 objs:∀a o b,(a,o,b)∈F.H->sM F z a o b
 vals:∀v w,(v,w)∈F.Hv->Lr F z v w
structure Fs {T:i7} (F:Fx T) (z:Zt) (m:Fr) (Y:Hp):Prop where
 cx:Cx T z.W 0 F.A F.env z.own m z.U Y z.s
 st:St F z.W z.own
 out:i4 T F.W0 F.Z4 F.s0 Y z.U z.s
 hd:Hd F z
structure N7 (A:Around) (n:Nat):Prop where
 depth:A.depth+2 * n≤900
 units:A.units+20 * n≤9000
theorem N7.lo {A:Around} {n:Nat} (r:N7 A (n+1)):N7 A n:=⟨OV (Pa (Nat.mul_le_mul_left 2 (Nat.le_succ n)) _) r.depth,OV (Pa (Nat.mul_le_mul_left 20 (Nat.le_succ n)) _) r.units⟩
section
theorem jh {h:Heap} {L:Addr} {f g:Str->Option Value} (x:h.Ns L f) (y:h.Ns L g):f=g:=by
 obtain⟨o,es,ep,h1,h2,_,h3⟩:=x
 obtain⟨o',es',ep',h1',h2',_,h3'⟩:=y
 cases h1.symm.trans h1'
 cases h2.symm.trans h2'
 exact funext λk=>(h3 k).symm.trans (h3' k)
theorem pG {h:Heap} {c:Addr} {v w:Option Value} (x:h.IsCell c v) (y:h.IsCell c w):v=w:=by
 obtain⟨o,e1,e2⟩:=x
 obtain⟨o',e1',e2'⟩:=y
 cases e1.symm.trans e1'
 cases e2.symm.trans e2'
 rfl
theorem S9 {α:Type} {x:Option α} {a b:α} {G:Prop} (e:x=some a) (e':x=some b) (n:a≠b):G:=absurd (ON (e.symm.trans e')) n
theorem n7.unique {W W':r9} {env:Env} {h:Heap} {y:Str} {w w':Value} (x:n7 W env h y w) (x':n7 W' env h y w'):w=w':=by
 induction x with
 |loc f k n e=>cases x' with
  |loc f' k' n' e'=>exact ON (e.symm.trans ((congrFun (jh n n') y).trans e'))
  |P0 c k'=>exact k'.elim (λk'=>S9 k k' nofun) λk'=>S9 k k' nofun
 |P0 c k hc o i=>induction x' with
  |loc f' k'=>exact k.elim (λk=>S9 k k' nofun) λk=>S9 k k' nofun
  |P0 c' k' hc' o' i'=>cases hc.symm.trans hc';exact ON (pG i i')
theorem zr (m:Fr) {x y:Nat} (v:V) (n:Nat.beq x y=false):d6 (m.map λp=>bif Nat.beq p.1 x then(p.1,v)else p) y=d6 m y:=by
 induction m with
 |nil=>rfl
 |cons p r ih=>
  show R9 Nat.beq ((bif Nat.beq p.1 x then(p.1,v)else p)::_) y=bif Nat.beq p.1 y then some p.2 else R9 Nat.beq r y
  cases e:Nat.beq p.1 x with
  |false=>exact OY (λz=>bif Nat.beq p.1 y then some p.2 else z) ih
  |true=>
   rw[Pc e,n]
   exact(OY (λz=>bif z then some v else _) n).trans ih
theorem iw (m:Fr) {x:Nat} (v:V) (h:(m.any λp=>Nat.beq p.1 x)=true):d6 (m.map λp=>bif Nat.beq p.1 x then(p.1,v)else p) x=some v:=by
 induction m with
 |nil=>cases h
 |cons p r ih=>
  show R9 Nat.beq ((bif Nat.beq p.1 x then(p.1,v)else p)::_) x=_
  cases e:Nat.beq p.1 x with
  |true=>exact OY (λz=>bif z then some v else _) e
  |false=>
   rw[List.any_cons,e]at h
   exact(OY (λz=>bif z then some p.2 else _) e).trans (ih h)
theorem zt (m:Fr) (x y:Nat) (v:V) (h:(m.any λp=>Nat.beq p.1 x)=false):d6 (m++[(x,v)]) y=bif Nat.beq x y then some v else d6 m y:=by
 induction m with
 |nil=>rfl
 |cons p r ih=>
  rw[List.any_cons,Bool.or_eq_false_iff]at h
  show(bif Nat.beq p.1 y then some p.2 else R9 Nat.beq (r++[(x,v)]) y)=bif Nat.beq x y then some v else bif Nat.beq p.1 y then some p.2 else R9 Nat.beq r y
  cases e:Nat.beq p.1 y with
  |false=>exact ih h.2
  |true=>
   induction q:Nat.beq x y with
   |false=>rfl
   |true=>rw[Pc e,Pc q,Nat.beq_refl]at h;exact Bool.noConfusion h.1
theorem D0 (m:Fr) (x y:Nat) (v:V):d6 (putN m x v) y=bif Nat.beq x y then some v else d6 m y:=by
 show d6 (bif m.any (λp=>Nat.beq p.1 x)then _ else _) y=_
 induction h:m.any λp=>Nat.beq p.1 x with
 |false=>exact zt m x y v h
 |true=>
  cases e:Nat.beq x y with
  |false=>exact zr m v e
  |true=>rw[←Pc e];exact iw m v h
theorem de {m:Fr} {x y:Nat} {v u:V} {G:V->Prop} (e:d6 (putN m x v) y=some u) (k:x=y->G v) (k':x≠y->d6 m y=some u->G u):G u:=by
 rw[D0]at e
 induction q:Nat.beq x y with
 |true=>rw[q]at e;cases e;exact k (Pc q)
 |false=>rw[q]at e;exact k' (λz=>by rw[z,Nat.beq_refl]at q;cases q) e
variable {C1:List (Nat×Addr)}
theorem n7.to {y:Str} {w:Value} (x:n7 W env h y w) (ns:∀f,h.Ns env.locals f->h'.Ns env.locals f) (P0:∀y c,env.cells.lookup y=some c->c∈W.own->c∈W'.own∧At c h h'):n7 W' env h' y w:=by
 induction x with
 |loc f k n e=>exact .loc f k (ns f n) e
 |P0 c k hc o i=>exact .P0 c k hc (P0 y c hc o).1 (D5 i (P0 y c hc o).2)
theorem G2.to (c:G2 T W U env own m h) (Y0:env.locals∈W'.l6) (ns:∀f,h.Ns env.locals f->h'.Ns env.locals f) (P0:∀y c,env.cells.lookup y=some c->c∈W.own->c∈W'.own∧At c h h') (ow:∀x a,(x,a)∈C1->a∈W'.own) (fv:∀y v w,FV T W U h own y v w->FV T W' d7 h' C1 y v w):G2 T W' d7 env C1 m h' where
 kind:=c.kind
 glob:=c.glob
 blt:=c.blt
 Y0:=Y0
 loc:=c.loc
 ns:=c.ns.elim λf n=>⟨f,ns f n⟩
 var:=λx v e q=>(c.var x v e q).elim λw z=>⟨w,z.1.to ns P0,fv x v w z.2⟩
 has:=λy q=>match c.has y q with|⟨ca,v,hc,o,i⟩=>⟨ca,v,hc,(P0 y ca hc o).1,D5 i (P0 y ca hc o).2⟩
 own:=ow
 code:=c.code
theorem G2.put (c:G2 T W U env own m h) {x:Nat} {v:V} (hg:d6 T.glob x=none) (ns:∃f,h'.Ns env.locals f) (has:∀y,aD W env h y->aD W env h' y) (xy:∀y u,y≠x->n7 W env h (T.nm y) u->n7 W env h' (T.nm y) u) (fv:∀y v w,y≠x->FV T W U h own y v w->FV T W U h' own y v w)
 (hx:f6 (env.kindOf (T.nm x)) T6=true->∃w,n7 W env h' (T.nm x) w∧FV T W U h' own x v w):G2 T W U env own (putN m x v) h' where
 kind:=c.kind
 glob:=c.glob
 blt:=c.blt
 Y0:=c.Y0
 loc:=λy u e=>de (G:=λJ=>d6 T.glob y=none) e (λq=>q▸hg) λJ e=>c.loc y u e
 ns:=ns
 var:=λy u e q=>de (G:=λu=>∃w,n7 W env h' (T.nm y) w∧FV T W U h' own y u w) e (λz=>by subst z;exact hx q) λz e=>(c.var y u e q).elim λw k=>⟨w,xy y w (Ne.symm z) k.1,fv y u w (Ne.symm z) k.2⟩
 has:=λy q=>has y (c.has y q)
 own:=c.own
 code:=c.code
theorem G2.congr {m':Fr} (x:G2 T W U env own m h) (e:∀y,d6 m' y=d6 m y):G2 T W U env own m' h:=⟨x.kind,x.glob,x.blt,x.Y0,λy v q=>x.loc y v (e y▸q),x.ns,λy v q=>x.var y v (e y▸q),x.has,x.own,x.code⟩
end
variable {z:Zt} {F:Fx T} {m':Fr}
section
variable {D:Addr->Prop}
def I0 (L:Addr) (h:Heap):Prop:=∃o,h.get? L=some o∧∀vs,o.data≠.fields vs
theorem H6 {h:Heap} {L:Addr} {f:Str->Option Value} (x:h.Ns L f):I0 L h:=match x with
 |⟨o,es,ep,e,d,_⟩=>⟨o,e,λvs q=>nomatch d.symm.trans q⟩
theorem X2 {h:Heap} {c:Addr} {v:Option Value} (x:h.IsCell c v):I0 c h:=match x with
 |⟨o,e,d⟩=>⟨o,e,λvs q=>nomatch d.symm.trans q⟩
def XF (F:Fx T) (E:Value->Shared->Prop) (t:Txt) (c7:Hp):Prop:=
 ∀e s' d7 W,In F.W0 W F.s0->F.env.locals∈W.l6->I0 F.env.locals s'.heap->i4 T F.W0 F.Z4 F.s0 c7 d7 s'->sN T W F.s0 d7 c7 s'.heap t e->E e s'
theorem sM.to {z z':Zt} {a:Addr} {o:Obj} {b:Bool} (x:sM F z a o b) (k:At a z.s.heap z'.s.heap) (nm:A7 T z'.W z'.U a->A7 T z.W z.U a) (nn:∀x,(x,a)∈z'.own->(x,a)∈z.own) (own:a∈z.W.own->a∈z'.W.own) (nb:k9 T z'.W z'.U a->k9 T z.W z.U a):sM F z' a o b:=
 ⟨k o x.at_,λq=>x.nm (nm q),λy q=>x.nn y (nn y q),x.nc,λq=>own (x.own q),λq y=>x.nb q (nb y)⟩
theorem rN {W W':r9} {s:Shared} {T:i7} {U:List Addr} {a:Addr} (g:s8 s W W') (q:A7 T W' U a):A7 T W U a:=q.imp id λq=>q.imp (λq=>g.l6▸q) id
theorem Fs.grow (f:Fs F z m Y) (o:i4 T z.W z.U z.s c7 d7 s') (g:s8 z.s z.W W') (c:d9 T W' d7 c7 s'.heap):Fs F ⟨W',z.own,d7,s'⟩ m c7 where
 cx:=f.cx.grow o g c
 st:={f.st with v5:=⟨λa q=>g.l6▸f.st.v5.l6 a q,λa q=>g.own a (f.st.v5.own a q),λa q=>f.st.v5.gE a (g.l6▸q),λa q=>(g.C1 a q).elim (f.st.v5.C1 a) λq=>.inr (f.out.ext.since q)⟩,aw:=λy c q=>g.own c (f.st.aw y c q)}
 out:=i4.under f.st.v5 f.out o
 hd:=⟨λa ob b q=>(f.hd.objs a ob b q).to (o.ext.off.at (f.hd.objs a ob b q).nm) (λy=>(rN g y).imp (λy=>(o.ext.new a y).elim id λy=>d0 y (f.hd.objs a ob b q).at_) id) (λJ y=>y) (g.own a) (λy=>o.ext.bE (f.hd.objs a ob b q).at_ (g.v5.back (f.hd.objs a ob b q).at_ y)),
  λv w q=>⟨(f.hd.vals v w q).g,(f.hd.vals v w q).r.ms (rP o.ext g)⟩⟩
theorem Fs.step (f:Fs F z m Y) (o:i4 T z.W z.U z.s c7 d7 s'):Fs F (z.to d7 s') m c7:=f.grow o s8.refl o.rel
theorem Fs.congr (f:Fs F z m Y) (e:∀y,d6 m' y=d6 m y):Fs F z m' Y:=⟨⟨f.cx.rel,f.cx.fr.congr e,f.cx.ar⟩,f.st,f.out,f.hd⟩
theorem Fs.mY (f:Fs F z m Y) (r:N7 F.A n):Cx T z.W n F.A F.env z.own m z.U Y z.s:=⟨f.cx.rel,f.cx.fr,⟨f.cx.ar.handled,r.depth,r.units,f.cx.ar.frames⟩⟩
theorem Fs.nL (f:Fs F z m Y) {a:Addr} (ha:a∈z.W.own):a≠F.env.locals:=λq=>(f.cx.rel.o5.own a ha).nm (.inr (.inl (q▸f.cx.fr.Y0)))
theorem Fs.turned (f:Fs F z m Y) {t:Nat} (tt:qc z.W D z.s.heap h') (fr:G2 T z.W z.U F.env z.own m' h') (new:∀a,D a->F.s0.heap.get? a=none) (hH:∀a o b,(a,o,b)∈F.H->¬D a):Fs F (z.hp h' t) m' Y where
 cx:=⟨f.cx.rel.turn tt,fr,f.cx.ar.mv (λJ q=>q) tt.keep λa ha q o e d=>tt.frame a ha q⟩
 st:=f.st
 out:=f.out.turn (s'':={z.s with heap:=h',toks:=t}) tt.keep new ⟨rfl,rfl,rfl⟩ ((f.cx.rel.turn tt).shrink f.st.v5)
 hd:=⟨λa ob b q=>(f.hd.objs a ob b q).to (tt.keep.at (hH a ob b q)) (λy=>y) (λJ y=>y) (λy=>y) (λy=>y),λv w q=>⟨(f.hd.vals v w q).g,(f.hd.vals v w q).r.ms tt.ms⟩⟩
theorem aM {W:r9} {a:Addr} {h h':Heap} (x:Heap.SameBut a h h') (ha:a∈W.l6∨a∈W.own) (t:I0 a h'):qc W (λb=>b=a) h h':=
 t.elim λo q=>⟨λb ob e n=>(x.2 b n).trans e,λb ob e=>by
  by_cases k:b=a
  ·exact⟨o,k▸q.1⟩
  ·exact⟨ob,(x.2 b k).trans e⟩,λb k=>k▸ha,λb J k=>⟨o,k▸q.1,q.2⟩⟩
inductive s6 (T:i7) (kd:Kd) (x:Nat):Prop
 |loc (g:d6 T.glob x=none) (k:kd (T.nm x)=some .local)
 |P0 (g:d6 T.glob x=none) (k:kd (T.nm x)=some .cell)
inductive cS (F:Fx T) (x:Nat):Prop
 |loc (g:d6 T.glob x=none) (k:F.env.kindOf (T.nm x)=some .local)
 |P0 (g:d6 T.glob x=none) (k:F.env.kindOf (T.nm x)=some .cell) (d:kc F)
theorem s6.La {x:Nat} (h:s6 T F.env.kindOf x) (d:kc F):cS F x:=by
 induction h with
 |loc g k=>exact .loc g k
 |P0 g k=>exact .P0 g k d
theorem n7.CK {W:r9} {env:Env} {h h':Heap} {y:Str} {u:Value} {f:Str->Option Value} (c:∀c,c∈W.own->At c h h') (n:h.Ns env.locals f) {g:Str->Option Value} (n':h'.Ns env.locals g) (e:g y=f y) (x:n7 W env h y u):n7 W env h' y u:=by
 induction x with
 |loc f' k n2 e2=>exact .loc g k n' (e.trans ((congrFun (jh n n2) y).trans e2))
 |P0 ca k hc o i=>exact .P0 ca k hc o (D5 i (c ca o))
theorem pH {W:r9} {env:Env} {h h':Heap} {y:Str} {L:Addr} {v:Option Value} (x:aD W env h y) (k:∀c,c≠L->At c h h') (i:∀c v,c=L->h.IsCell c v->∃v,h'.IsCell c v):aD W env h' y:=match x with
 |⟨c,v,hc,o,q⟩=>if e:c=L then(i c v e q).elim λv q=>⟨c,v,hc,o,q⟩else⟨c,v,hc,o,D5 q (k c e)⟩
theorem Fs.sZ {Q:Unit->Shared->Prop} {E:Value->Shared->Prop} (tk:E5 T P) (f:Fs F z m Y) {x:Nat} {v:V} {w:Value} (hs:cS F x) (fv:FV T z.W z.U z.s.heap z.own x v w)
 (k:∀s',Fs F (z.to z.U s') (putN m x v) Y->Q () s'):wpAny (model T.prog T.w) F.A (storeName F.env (T.nm x) w) Q E z.s:=by
 have go:∀{L:Addr} {h':Heap} {t:Nat},qc z.W (λb=>b=L) z.s.heap h'->d6 T.glob x=none->F.s0.heap.get? L=none->(∀y a,(y,a)∈z.own->a≠L)->(∀a o b,(a,o,b)∈F.H->a≠L)->I0 L h'->(∃f,h'.Ns F.env.locals f)->(∀y,aD z.W F.env z.s.heap y->aD z.W F.env h' y)->
  (∀y u,y≠x->n7 z.W F.env z.s.heap (T.nm y) u->n7 z.W F.env h' (T.nm y) u)->n7 z.W F.env h' (T.nm x) w->Q () {z.s with heap:=h',toks:=t}:=λ{L h' t} tt hg ln on hH ft ns ca xy hx=>
  have fvm:∀{y v w},FV T z.W z.U z.s.heap z.own y v w->FV T z.W z.U h' z.own y v w:=λ{y v w} q=>q.mv tt.ms λa ha=>tt.keep.at (on y a ha)
  k _ (f.turned tt (f.cx.fr.put hg ns ca xy (λy v w J q=>fvm q) λJ=>⟨w,hx,fvm fv⟩) (λa q=>q▸ln) hH)
 have oL:∀a,a∈z.W.own->a≠F.env.locals:=λa ha=>f.nL ha
 induction hs with
 |loc g hk=>exact f.cx.fr.ns.elim λnf hn=>wpAny_storeName_local hk hn (λh' hn' hs=>by
  have tt:=aM hs (.inl f.cx.fr.Y0) (H6 hn')
  exact go tt g f.st.O4 (λy a q=>oL a (f.cx.fr.own y a q)) (λa o b q e=>(f.hd.objs a o b q).nm (.inr (.inl (e▸f.cx.fr.Y0)))) (H6 hn') ⟨_,hn'⟩ (λy q=>match q with|⟨c,v,hc,o,i⟩=>⟨c,v,hc,o,D5 i (tt.keep.at (oL c o))⟩)
   (λy u ne q=>q.CK (λc o=>tt.keep.at (oL c o)) hn hn' (Pq λe=>ne (tk.rR _ _ e))) (.loc _ hk hn' (Pp rfl))) (hp:=by rw[f.cx.fr.kind];rfl)
 |P0 g hk d=>exact match f.cx.fr.has _ hk with
  |⟨ca,Of,hca,ho,hi⟩=>wpAny_storeName_cell f.cx.fr.kind hk hca hi λh' hi' hs=>by
   have tt:=aM hs (.inr ho) (X2 hi')
   have nsm:∀f',z.s.heap.Ns F.env.locals f'->h'.Ns F.env.locals f':=λf' n=>ji n (tt.keep.at λe=>oL ca ho e.symm)
   have hw:∀y,y≠x->F.env.cells.lookup (T.nm y)≠some ca:=λy ne q=>ne (tk.rR _ _ (d.DT _ _ ca q hca))
   exact go tt g (d.wQ _ ca hca) (λy a q=>f.st.cD y a _ ca q hca) (λa o b q e=>(f.hd.objs a o b q).nc _ (e▸hca)) (X2 hi') (f.cx.fr.ns.elim λf' n=>⟨f',nsm f' n⟩)
    (λy q=>pH (v:=none) q (λc ne=>tt.keep.at ne) λc v e J=>⟨_,e▸hi'⟩)
    (λy u ne q=>match q with
     |.loc f' k n e=>.loc f' k (nsm f' n) e
     |.P0 c k hc o i=>.P0 c k hc o (D5 i (tt.keep.at λe=>hw y ne (e▸hc)))) (.P0 ca (.inl hk) hca ho hi')
theorem Fs.store {Q:Unit->Shared->Prop} {E:Value->Shared->Prop} (tk:E5 T P) (f:Fs F z m Y) {x:Nat} {v:V} {w:Value} (hs:cS F x) (g:solid v=true) (r:eP T z.W z.U z.s.heap v w) (k:∀s',Fs F (z.to z.U s') (putN m x v) Y->Q () s'):wpAny (model T.prog T.w) F.A (storeName F.env (T.nm x) w) Q E z.s:=
 f.sZ tk hs (.pl v w g r) k
theorem Fs.turn (f:Fs F z m Y) {x:Nat} {v v':V} {t:Nat} (hx:d6 m x=some v) (hD:∀b,D b->(x,b)∈z.own) (keep:Off D z.s.heap h') (there:∀a ob,z.s.heap.get? a=some ob->∃ob',h'.get? a=some ob')
 (fv:∀w,n7 z.W F.env z.s.heap (T.nm x) w->Ms z.U z.U (k9 T z.W z.U) (k9 T z.W z.U) D z.s.heap h'->FV T z.W z.U z.s.heap z.own x v w->FV T z.W z.U h' z.own x v' w):Fs F (z.hp h' t) (putN m x v') Y:=
 have ow:∀a,D a->a∈z.W.own:=λa q=>f.cx.fr.own x a (hD a q)
 have tt:qc z.W D z.s.heap h':=⟨keep,there,λa q=>.inr (ow a q),λa hf q=>absurd (.inr (.inl hf)) (f.cx.rel.o5.own a (ow a q)).nm⟩
 have nL:¬D F.env.locals:=λq=>f.nL (ow _ q) rfl
 have nC:∀y c,F.env.cells.lookup y=some c->¬D c:=λy c hc q=>f.st.cD x c y c (hD c q) hc rfl
 have held:∀y u,n7 z.W F.env z.s.heap y u->n7 z.W F.env h' y u:=λy u q=>q.to (λf' n=>ji n (keep.at nL)) λy c hc o=>⟨o,keep.at (nC y c hc)⟩
 f.turned tt (f.cx.fr.put (f.cx.fr.loc x v hx) (f.cx.fr.ns.elim λf' n=>⟨f',ji n (keep.at nL)⟩) (λy q=>match q with|⟨c,v,hc,o,i⟩=>⟨c,v,hc,o,D5 i (keep.at (nC y c hc))⟩) (λy u J=>held _ u)
  (λy v w ne q=>q.mv tt.ms λa ha=>keep.at λy'=>ne (f.st.inj _ _ a ha (hD a y'))) λq=>(f.cx.fr.var x v hx q).elim λw k=>⟨w,held _ w k.1,fv w k.1 tt.ms k.2⟩) (λa q=>f.st.aR x a (hD a q)) λa o b q y=>(f.hd.objs a o b q).nn x (hD a y)
end
section
variable {D:Addr->Prop}
structure l8 (F:Fx T) (z:Zt) (a:Addr):Prop where
 C9:a∈z.W.own
 OK:∀y,(y,a)∉z.own
 cell:∀y,F.env.cells.lookup y≠some a
 new:F.s0.heap.get? a=none
 out:a∉F.W0.own
 held:∀o b,(a,o,b)∉F.H
theorem Fs.loose (f:Fs F z m Y) {a:Addr} (hn:z.s.heap.get? a=none) (ha:a∈W'.own):l8 F ⟨W',z.own,d7,s'⟩ a where
 C9:=ha
 OK:=λy q=>(f.cx.rel.o5.own a (f.cx.fr.own y a q)).ex.elim λo e=>d0 hn e
 cell:=λy q=>(f.cx.rel.o5.own a (f.st.aw y a q)).ex.elim λo e=>d0 hn e
 new:=f.out.ext.since hn
 out:=λq=>(f.cx.rel.o5.own a (f.st.v5.own a q)).ex.elim λo e=>d0 hn e
 held:=λo b q=>d0 hn (f.hd.objs a o b q).at_
theorem Fs.more (f:Fs F z m Y) {x:Nat} {a:Addr} (l:l8 F z a):Fs F ⟨z.W,(x,a)::z.own,z.U,z.s⟩ m Y where
 cx:=⟨f.cx.rel,f.cx.fr.to f.cx.fr.Y0 (λJ n=>n) (λJ J J o=>⟨o,λJ e=>e⟩) (λy b q=>(OW q).elim (λe=>(Prod.mk.inj e).2▸l.C9) (f.cx.fr.own y b)) (λy v w q=>match q with
  |.ml xs ws a o l r=>.ml xs ws a (.tail _ o) l r
  |.md kvs a o q=>.md kvs a (.tail _ o) q
  |.mo c at_ C a dx kws o o' hc ha hd r=>.mo c at_ C a dx kws (.tail _ o) (.tail _ o') hc ha hd r
  |.pl v w g r=>.pl v w g r),f.cx.ar⟩
 st:={f.st with
  inj:=λy u b h1 h2=>(OW h1).elim (λe1=>(OW h2).elim (λe2=>(Prod.mk.inj e1).1.trans (Prod.mk.inj e2).1.symm) λh2=>absurd ((Prod.mk.inj e1).2▸h2) (l.OK u)) λh1=>(OW h2).elim (λe2=>absurd ((Prod.mk.inj e2).2▸h1) (l.OK y)) λh2=>f.st.inj y u b h1 h2
  aR:=λy b q=>(OW q).elim (λe=>(Prod.mk.inj e).2▸l.new) (f.st.aR y b)
  cD:=λy b u c q hc=>(OW q).elim (λe e2=>l.cell u ((Prod.mk.inj e).2▸e2▸hc)) λq=>f.st.cD y b u c q hc}
 out:=f.out
 hd:=⟨λb o bb q=>(f.hd.objs b o bb q).to (λJ e=>e) id (λy k=>(OW k).elim (λe=>absurd ((Prod.mk.inj e).2▸q) (l.held o bb)) id) id id,λv w q=>⟨(f.hd.vals v w q).g,(f.hd.vals v w q).r⟩⟩
theorem Fs.chg (f:Fs F z m Y) {t:Nat} (l6:W'.l6=z.W.l6) (sub:∀a,a∈W'.own->a∈z.W.own) (gone:∀a,a∈z.W.own->a∈W'.own∨l8 F z a) (hD:∀a,D a->l8 F z a) (keep:Off D z.s.heap h') (there:∀a,a∈W'.own->D a->∃o,h'.get? a=some o):
 Fs F ⟨W',z.own,z.U,{z.s with heap:=h',toks:=t}⟩ m Y:=
 have nm:∀{a},D a->¬A7 T z.W z.U a:=λq=>(f.cx.rel.o5.own _ (hD _ q).C9).nm
 have bb:∀{a},k9 T W' z.U a->k9 T z.W z.U a:=λq=>q.imp id λq=>q.imp (λq=>l6▸q) λq=>q.imp (sub _) id
 have ms:Ms z.U z.U (k9 T z.W z.U) (k9 T W' z.U) D z.s.heap h':=f.cx.rel.T3 (λJ q=>.inl (bb q)) keep λa q=>.inr (hD a q).C9
 have thr:∀a,a∈W'.own->∃o,h'.get? a=some o:=λa ha=>Classical.byCases (λq:D a=>there a ha q) λq=>(f.cx.rel.o5.own a (sub a ha)).ex.elim λo e=>⟨o,keep a o e q⟩
 have mvs:∀{a},A7 T W' z.U a->A7 T z.W z.U a:=λq=>q.imp id λq=>q.imp (λq=>l6▸q) id
 have rel:=f.cx.rel.move (λJ q=>.inl (bb q)) keep (λa q=>.inr (hD a q).C9) ⟨λa ha=>⟨λq=>(f.cx.rel.o5.own a (sub a ha)).nm (mvs q),thr a ha⟩,λa ha=>have ha:=l6▸ha;⟨(f.cx.rel.o5.l6 a ha).nr,(f.cx.rel.o5.l6 a ha).nt,(f.cx.rel.o5.l6 a ha).ex.elim λo e=>⟨o,keep a o e λq=>nm q (.inr (.inl ha))⟩⟩⟩
 have C1:∀a,a∈z.W.own->¬l8 F z a->a∈W'.own:=λa ha n=>(gone a ha).elim id λq=>absurd q n
 have v5:In F.W0 W' F.s0:=⟨λa q=>l6▸f.st.v5.l6 a q,λa q=>C1 a (f.st.v5.own a q) λl=>l.out q,λa q=>f.st.v5.gE a (l6▸q),λa q=>f.st.v5.C1 a (sub a q)⟩
 {cx:=⟨rel,f.cx.fr.to (l6▸f.cx.fr.Y0) (λJ n=>ji n (keep.at λq=>nm q (.inr (.inl f.cx.fr.Y0)))) (λy c hc o=>⟨C1 c o λl=>l.cell y hc,keep.at λq=>(hD c q).cell y hc⟩) (λx a q=>C1 a (f.cx.fr.own x a q) λl=>l.OK x q)
  (λy v w q=>q.mv ms λa ha=>keep.at λq=>(hD a q).OK y ha),f.cx.ar.mv (λa q=>l6▸q) keep λa ha q J J J=>absurd (.inr (.inl ha)) (nm q)⟩
  st:={f.st with v5:=v5,aw:=λy c q=>C1 c (f.st.aw y c q) λl=>l.cell y q}
  out:=f.out.turn (s'':={z.s with heap:=h',toks:=t}) keep (λa q=>(hD a q).new) ⟨rfl,rfl,rfl⟩ (rel.shrink v5)
  hd:=⟨λa o b q=>(f.hd.objs a o b q).to (keep.at λy=>(hD a y).held o b q) mvs (λJ y=>y) (λy=>C1 a y λl=>l.held o b q) bb,λv w q=>⟨(f.hd.vals v w q).g,(f.hd.vals v w q).r.ms ms⟩⟩}
noncomputable def r9.less (W:r9) (ds:List Addr):r9:=⟨W.l6,W.own.filter λb=>!(ds.contains b)⟩
theorem F0 {W:r9} {ds:List Addr} {b:Addr}:b∈(W.less ds).own↔b∈W.own∧b∉ds:=by
 unfold r9.less
 rw[List.mem_filter]
 simp
theorem Fs.je (f:Fs F z m Y) {ds:List Addr} {t:Nat} (hD:∀b,b∈ds->l8 F z b) (keep:Off (λa=>a∈ds) z.s.heap h'):Fs F ⟨z.W.less ds,z.own,z.U,{z.s with heap:=h',toks:=t}⟩ m Y:=
 f.chg rfl (λa q=>(F0.mp q).1) (λa q=>Classical.byCases (λe:a∈ds=>.inr (hD a e)) λe=>.inl (F0.mpr ⟨q,e⟩)) hD keep λa q e=>absurd e (F0.mp q).2
theorem Fs.drop (f:Fs F z m Y) {a:Addr} (l:l8 F z a):Fs F ⟨z.W.less [a],z.own,z.U,z.s⟩ m Y:=f.je (t:=z.s.toks) (λb q=>(OX q)▸l) (Off.refl _ _)
theorem Fs.cU (f:Fs F z m Y) {t:Nat} (hD:∀b,D b->l8 F z b) (keep:Off D z.s.heap h') (there:∀b,D b->∃o,h'.get? b=some o):Fs F (z.hp h' t) m Y:=
 f.chg rfl (λJ q=>q) (λJ q=>.inl q) hD keep λa J q=>there a q
theorem Fs.adopt (f:Fs F z m Y) {ds:List Addr} {t:Nat} (k:∀a o,z.s.heap.get? a=some o->h'.get? a=some o) (hn:∀d,d∈ds->z.s.heap.get? d=none) (hy:∀d,d∈ds->∃o,h'.get? d=some o):Fs F ⟨z.W.add ds,z.own,z.U,{z.s with heap:=h',toks:=t}⟩ m Y:=
 f.grow (i4.keeps f.cx.rel k) (s8.add hn) (f.cx.rel.adopt k hn hy)
theorem l8.yY {a:Addr} (l:l8 F z a) (f:Fs F z m Y):¬k9 T (z.W.less [a]) z.U a:=λq=>(f.cx.rel.o5.own a l.C9).nm (q.imp id λq=>q.imp id λq=>q.elim (λq=>absurd (.head _) (F0.mp q).2) id)
theorem tO {a:Addr} {h:Heap}:Ms z.U z.U (k9 T z.W z.U) (k9 T (z.W.less [a]) z.U) (λJ=>False) h h:=⟨λJ J e=>e,Off.refl _ _,λJ J J q=>q.elim,λb J J q=>q.imp id λq=>q.imp id λq=>q.imp (λq=>(F0.mp q).1) id⟩
inductive Gv (F:Fx T) (z:Zt) (v:V):Value->Prop
 |plain (w:Value):made v=false->C5 T z.W z.U z.s.heap v w->Gv F z v w
 |own (a:Addr):l8 F z a->M0 T z.W z.U z.s.heap a v->Gv F z v (.ref a)
theorem Fs.give (f:Fs F z m Y) (o:i4 T z.W z.U z.s c7 d7 s') {v:V} {w:Value} (hv:C5 T z.W d7 s'.heap v w) (hf:G1 T z.W z.s d7 c7 s'.heap v w) {G:Prop} (k:∀W',Fs F ⟨W',z.own,d7,s'⟩ m c7->Gv F ⟨W',z.own,d7,s'⟩ v w->G):G:=by
 cases e:made v with
 |false=>exact k _ (f.step o) (.plain w e hv)
 |true=>induction hf e with|mk a W' n g ha r q=>exact k W' (f.grow o g r) (.own a (f.loose n ha) q)
theorem Fs.freeze (f:Fs F z m Y) {v v':V} {w:Value} (g:Gv F z v w) (e:freeze v=some v') {G:Prop} (k:∀W',Fs F ⟨W',z.own,z.U,z.s⟩ m Y->solid v'=true->eP T W' z.U z.s.heap v' w->G):G:=by
 induction g with
 |plain _ _ hv=>exact k _ f (C2 e hv).1 (C2 e hv).2
 |own a l q=>induction q with
  |l xs ws l1 r=>cases e;exact k _ (f.drop l) rfl (.jo _ xs ws a rfl rfl l1 (l.yY f) (r.ms tO))
  |d kvs d=>cases e;exact match d with|⟨kws,hd,hs,e,r⟩=>k _ (f.drop l) rfl (.mX _ kvs a kws rfl rfl hd hs (l.yY f) e (r.ms tO))
theorem Fs.keep (f:Fs F z m Y) {v:V} {w:Value} (x:Nat) (g:Gv F z v w) (e:made v=true) {G:Prop} (k:∀C1,Fs F ⟨z.W,C1,z.U,z.s⟩ m Y->FV T z.W z.U z.s.heap C1 x v w->G):G:=by
 induction g with
 |plain _ h _=>exact Bool.noConfusion (h.symm.trans e)
 |own a l q=>induction q with
  |l xs ws l1 r=>exact k _ (f.more l) (.ml xs ws a (.head _) l1 r)
  |d kvs d=>exact k _ (f.more l) (.md kvs a (.head _) d)
noncomputable abbrev Fx.hold (F:Fx T) (H:List (Addr×Obj×Bool)) (Hv:List (V×Value)):Fx T:=⟨F.A,F.env,F.W0,F.Z4,F.s0,H++F.H,Hv++F.Hv⟩
theorem Fs.holds (f:Fs F z m Y) {H:List (Addr×Obj×Bool)} {Hv:List (V×Value)} (ho:∀a o b,(a,o,b)∈H->sM F z a o b) (hv:∀v w,(v,w)∈Hv->Lr F z v w):Fs (F.hold H Hv) z m Y:=
 ⟨f.cx,⟨f.st.v5,f.st.inj,f.st.aR,f.st.O4,f.st.cD,f.st.aw,f.st.old⟩,f.out,⟨λa o b q=>have x:=(Px q).elim (ho a o b) (f.hd.objs a o b);⟨x.at_,x.nm,x.nn,x.nc,x.own,x.nb⟩,λv w q=>have x:=(Px q).elim (hv v w) (f.hd.vals v w);⟨x.g,x.r⟩⟩⟩
theorem Fs.y7 {H:List (Addr×Obj×Bool)} {Hv:List (V×Value)} (f:Fs (F.hold H Hv) z m Y):Fs F z m Y:=
 ⟨f.cx,⟨f.st.v5,f.st.inj,f.st.aR,f.st.O4,f.st.cD,f.st.aw,f.st.old⟩,f.out,⟨λa o b q=>have x:=f.hd.objs a o b (OS _ q);⟨x.at_,x.nm,x.nn,x.nc,x.own,x.nb⟩,λv w q=>have x:=f.hd.vals v w (OS _ q);⟨x.g,x.r⟩⟩⟩
theorem l8.Fe {a:Addr} {o:Obj} (l:l8 F z a) (f:Fs F z m Y) (e:z.s.heap.get? a=some o):sM F z a o true:=⟨e,(f.cx.rel.o5.own a l.C9).nm,l.OK,l.cell,λJ=>l.C9,λq=>nomatch q⟩
theorem Fs.NP (f:Fs F z m Y) {a:Addr} {o:Obj} (nb:¬k9 T z.W z.U a) (e:z.s.heap.get? a=some o):sM F z a o false:=
 ⟨e,λq=>nb q.bad,λy q=>nb (.inr (.inr (.inl (f.cx.fr.own y a q)))),λy q=>nb (.inr (.inr (.inl (f.st.aw y a q)))),nofun,λJ=>nb⟩
theorem Fs.kv {Q:Value->Shared->Prop} (f:Fs F z m Y) (o:i4 T z.W z.U z.s c7 d7 s') {v:V} {w:Value} (hv:C5 T z.W d7 s'.heap v w) (hf:G1 T z.W z.s d7 c7 s'.heap v w) (k:KV T F.W0 F.Z4 F.s0 Q v c7):Q w s':=
 have v5:=f.st.v5
 k _ _ d7 (i4.under v5 f.out o) (VR.mv (v5.ms _) (λa J J q=>⟨λy=>q (y.imp id λy=>y.imp (v5.l6 a) id),id⟩) hv) λe=>match hf e with
  |⟨a,W',n,g,ha,r,q⟩=>
   have i2:In ⟨F.W0.l6,W'.own⟩ W' F.s0:=⟨λa q=>g.l6▸v5.l6 a q,λJ q=>q,λa q=>v5.gE a (g.l6▸q),λJ q=>.inl q⟩
   ⟨a,⟨F.W0.l6,W'.own⟩,f.out.ext.since n,⟨rfl,λa q=>g.own a (v5.own a q),λa q=>(g.C1 a q).elim (v5.C1 a) λq=>.inr (f.out.ext.since q)⟩,ha,r.shrink i2,q.mv (i2.ms _) λJ e=>e⟩
theorem Fs.xv {E:Value->Shared->Prop} (f:Fs F z m Y) {t:Txt} (h:XF F E t c7):XV T z.W z.U z.s E t c7:=λe s' d7 o q=>
 h e s' d7 z.W f.st.v5 f.cx.fr.Y0 (f.cx.fr.ns.elim λg hn=>(H6 hn).elim λob k=>(o.ext.slots _ f.cx.fr.Y0 ob k.1).elim λsl e=>⟨_,e,k.2⟩) (i4.under f.st.v5 f.out o) (q.Ml (λJ=>f.out.ext.since) s8.refl)
theorem Fs.eval {α:Type} {K:α->Hp->Prop} {Q E:Value->Shared->Prop} (hr:g7 T n r.ev) (rm:N7 F.A n) (f:Fs F z m Y) {x:X} {e':Ex} {g:V->Hp->R α} (t:Tr T F.env.kindOf x e') (h:((r.ev m x Y).bind g).c4 K (XF F E))
 (k:∀v c9 w c5 c8,i4 T z.W z.U z.s c9 c8 c5->C5 T z.W c8 c5.heap v w->G1 T z.W z.s c8 c9 c5.heap v w->(g v c9).c4 K (XF F E)->Q w c5):wpAny (model T.prog T.w) F.A (PySem.eval e' F.env) Q E z.s:=
 hr (f.mY rm) t (R.c4.mono (R.d5.mp h) (λv c9 q w c5 c8 o hv hf=>k v c9 w c5 c8 o hv hf q) λJ J x=>f.xv x)
theorem Fs.test {α:Type} {K:α->Hp->Prop} {Q:Bool->Shared->Prop} {E:Value->Shared->Prop} (ht:D8 T n r.tr) (rm:N7 F.A n) (f:Fs F z m Y) {x:X} {e':Ex} {g:Bool->Hp->R α} (t:Tr T F.env.kindOf x e') (h:((r.tr m x Y).bind g).c4 K (XF F E))
 (k:∀b c9 c5 c8,i4 T z.W z.U z.s c9 c8 c5->(g b c9).c4 K (XF F E)->Q b c5):wpAny (model T.prog T.w) F.A (isTrue e' F.env (PySem.eval e' F.env)) Q E z.s:=
 ht (f.mY rm) t (R.c4.mono (R.d5.mp h) (λb c9 q c5 c8 o=>k b c9 c5 c8 o q) λJ J x=>f.xv x)
end
section
variable {K:Type} [DecidableEq K] {kws:List (K×Value)} {k q:K} {v:Value}
theorem BG (n:k≠q):valueAt (kws.map λkv=>if kv.1=k then(kv.1,v)else kv) q=valueAt kws q:=by
 induction kws with
 |nil=>rfl
 |cons p r ih=>
  rw[List.map_cons,show p=(p.1,p.2)from rfl,i6]
  by_cases e:p.1=k
  ·rw[Pp e,i6,Pq (e▸n),Pq (e▸n),ih]
  ·rw[Pq e,i6,ih]
theorem BH (h:(kws.any λkv=>decide (kv.1=k))=true):valueAt (kws.map λkv=>if kv.1=k then(kv.1,v)else kv) k=some v:=by
 induction kws with
 |nil=>cases h
 |cons p r ih=>
  rw[List.map_cons]
  by_cases e:p.1=k
  ·rw[Pp e,i6,Pp e]
  ·rw[List.any_cons,decide_eq_false e]at h
   rw[Pq e,show p=(p.1,p.2)from rfl,i6,Pq e]
   exact ih h
theorem Mc (h:¬(kws.any λkv=>decide (kv.1=k))=true):valueAt (kws++[(k,v)]) q=if k=q then some v else valueAt kws q:=by
 induction kws with
 |nil=>exact i6 ..
 |cons p r ih=>
  rw[List.any_cons,Bool.or_eq_true]at h
  rw[show p=(p.1,p.2)from rfl,List.cons_append,i6,i6,ih λe=>h (.inr e)]
  by_cases e:p.1=q
  ·rw[Pp e,Pp e,Pq λz=>h (.inl (decide_eq_true (e.trans z.symm)))]
  ·rw[Pq e,Pq e]
theorem eT:valueAt (stored kws k v) q=if k=q then some v else valueAt kws q:=by
 unfold stored
 by_cases h:(kws.any λkv=>decide (kv.1=k))=true
 ·rw[Pp h]
  by_cases e:k=q
  ·rw[Pp e,←e];exact BH h
  ·rw[Pq e];exact BG e
 ·rw[Pq h];exact Mc h
theorem cW {p:K×Value} (h:p∈stored kws k v):p.1=k∨∃q∈kws,q.1=p.1:=by
 unfold stored at h
 by_cases e:(kws.any λkv=>decide (kv.1=k))=true
 ·rw[Pp e]at h
  obtain⟨q,hq,e⟩:=List.mem_map.mp h
  by_cases hk:q.1=k
  ·rw[Pp hk]at e;exact .inl (e▸hk)
  ·rw[Pq hk]at e;exact .inr ⟨q,hq,OY _ e⟩
 ·rw[Pq e]at h
  exact(Px h).elim (λh=>.inr ⟨p,h,rfl⟩) λh=>.inl (OY _ (OX h))
end
theorem Gx {α:Type} [DecidableEq α] {l:List α}:∀{u:List α},l.Nodup->(∀x,x∈l->x∈u)->l.length≤u.length:=by
 induction l with
 |nil=>exact λJ J=>Nat.zero_le _
 |cons a t ih=>
  intro u hn hs
  obtain⟨h1,h2⟩:=List.nodup_cons.mp hn
  have ha:=hs a (.head _)
  have:=ih (u:=u.erase a) h2 λx hx=>(List.mem_erase_of_ne (λe:x=a=>h1 (e▸hx))).mpr (hs x (.tail _ hx))
  rw[List.length_erase_of_mem ha]at this
  exact OV (Nat.succ_le_succ this) (Nat.le_of_eq (Nat.sub_add_cancel (List.length_pos_of_mem ha)))
variable {X':Txt->Hp->Prop} {w:Value}
section
theorem Q7 {K:Type} [DecidableEq K] {knd:KeyKind T.prog T.w K} {a:Addr} {kws:List (K×Value)} (hd:h.DictOf knd a kws):(kws.map (·.1)).Nodup:=match hd with|⟨_,_,_,_,_,_,_,_,hn⟩=>hn
theorem dW {a:Addr} {kws:List (Str×Value)} (hd:h.DictOf (strKind T.prog T.w) a kws) (hu:∀p∈kws,∃k∈T.univ,p.1=i3 k):kws.length≤T.univ.length:=by
 have:=Gx (u:=T.univ.map i3) (Q7 hd) λx hx=>by
  obtain⟨p,hp,e⟩:=List.mem_map.mp hx
  obtain⟨k,hk,e2⟩:=hu p hp
  exact List.mem_map.mpr ⟨k,hk,e2.symm.trans e⟩
 rwa [OZ,OZ]at this
theorem Ci {Y:Hp} {l i:Nat} {o o':O} {G:Prop} (h:(Y.set l o')[i]? =some o) (k:i=l->o=o'->G) (k':i≠l->Y[i]? =some o->G):G:=by
 by_cases e:i=l
 ·subst e
  have hlt:i < Y.length:=by have:=(List.getElem?_eq_some_iff.mp h).1;rwa [List.length_set]at this
  rw[List.getElem?_set_self hlt]at h
  exact k rfl (ON h).symm
 ·rw[List.getElem?_set_ne (Ne.symm e)]at h
  exact k' e h
theorem vy {U:List Addr} (hn:U.Nodup) {i j:Nat} {a:Addr} (h1:U[i]? =some a) (h2:U[j]? =some a):i=j:=
 (List.getElem?_inj (List.getElem?_eq_some_iff.mp h1).1 hn).mp (h1.trans h2.symm)
theorem d9.tF (c:d9 T W U Y h) {a:Addr} (ha:a∈U):a∉T.tabs:=λq=>by
 obtain⟨i,hi⟩:=kR ha
 have hlt:i < Y.length:=c.len▸(List.getElem?_eq_some_iff.mp hi).1
 have g:=c.objs i _ a (Pb hlt) hi
 revert g
 induction c.tabs a q with
 |mk ps e t r=>induction Y[i]with
  |list xs=>exact λg=>match g with|⟨_,⟨_,e'⟩,_⟩=>nomatch OY Obj.data (ON (e.symm.trans e'))
  |map f=>exact λg=>match g with|⟨_,⟨o,_,_,e',_,d,_⟩,_,_,_⟩=>nomatch (OY Obj.data (ON (e.symm.trans e'))).trans d
  |dB f=>exact λg=>match g with|⟨_,⟨o,_,_,e',_,d,_⟩,_,_,_⟩=>nomatch (OY Obj.data (ON (e.symm.trans e'))).trans d
  |inst c d=>exact λg=>match g with|⟨_,_,_,_,e'⟩=>nomatch OY Obj.data (ON (e.symm.trans e'))
  |emp=>exact λg=>match g with|⟨_,_,e'⟩=>nomatch OY Obj.data (ON (e.symm.trans e'))
theorem Z6 {l:Nat} {a:Addr} (ha:U[l]? =some a) (hs:Heap.SameBut a h h'):Ms U U (k9 T W U) (k9 T W U) (λb=>b=a) h h':=⟨λJ J e=>e,λb ob e q=>(hs.2 b q).trans e,λb J J q=>.inl (q▸Q1 ha),λJ J J q=>q⟩
theorem i4.Z7 (c:d9 T W U Y s.heap) {l:Nat} {a:Addr} {o':O} {t:Nat} (ha:U[l]? =some a) (hs:Heap.SameBut a s.heap h') (hO:OR T W U h' a o'):i4 T W U s (Y.set l o') U {s with heap:=h',toks:=t}:=
 have hmem:=Q1 ha
 have ms:=Z6 (T:=T) (W:=W) ha hs
 have there:∀b ob,s.heap.get? b=some ob->∃ob',h'.get? b=some ob':=λb ob e=>Classical.byCases (λq:b=a=>q▸hO.there) λq=>⟨ob,ms.off b ob e q⟩
 {ext:=⟨λJ J e=>e,λJ q=>.inl q,λb ob e q=>ms.off b ob e λz=>q (.inl (z▸hmem)),there,λb hb ob e=>⟨ob.slots,ms.off b ob e λz=>(c.o5.l6 b hb).nr (z▸hmem)⟩,rfl,rfl,rfl⟩
  rel:={
   len:=(List.length_set ..).symm▸c.len
   nodup:=c.nodup
   objs:=λi ob b h1 h2=>Ci h1 (λe e'=>by subst e;subst e';exact(ON (ha.symm.trans h2))▸hO) λne h1=>OR.ms ms (ms.off.at λz=>ne (vy c.nodup h2 (z▸ha))) (c.objs i ob b h1 h2)
   base:=λb ob e=>ms.off b ob (c.base b ob e) λz=>d0 (c.fresh a (.inl hmem)) (z▸e)
   fresh:=c.fresh
   o5:=c.o5.keeps there
   tabs:=λP hP=>(c.tabs P hP).move ms.off (λz=>c.tF hmem (z▸hP)) ms.sb ms.bb}}
theorem xI {f:Txt->Option V} {kws:List (Str×Value)} {k:Txt} {v:V} {w:Value} {bad:Addr->Prop} (r:∀k,B1 T U bad h (f k) (valueAt kws (i3 k))) (g:solid v=true) (hv:VS T U bad h v w) (q:Txt):B1 T U bad h (t9 f k (some v) q) (valueAt (stored kws (i3 k) w) (i3 q)):=by
 rw[eT]
 show B1 T U bad h (bif r5 k q then some v else f q) _
 rw[D2]
 by_cases e:i3 k=i3 q
 ·rw[Pp e,decide_eq_true e];exact .some v w g hv
 ·rw[Pq e,decide_eq_false e];exact r q
theorem tJ {a:Addr} {f:Txt->Option V} {kws:List (Str×Value)} {k:Txt} {v:V} {w:Value} (hd:h.DictOf (strKind T.prog T.w) a (stored kws (i3 k) w)) (hs:(a == sysModules)=false) (r:∀k,B1 T U (k9 T W U) h (f k) (valueAt kws (i3 k))) (h3:∀p∈kws,∃k∈T.univ,p.1=i3 k)
 (hk:T.univ.any (r5 k)=true) (g:solid v=true) (hv:eP T W U h v w):IH T W U h a (t9 f k (some v)):=
 ⟨_,hd,hs,xI r g hv,λp hp=>(cW hp).elim (λe=>match List.any_eq_true.mp hk with|⟨u,hu,e2⟩=>⟨u,hu,e.trans (OY i3 (D1.mp e2))⟩) λ⟨q,hq,e⟩=>e▸h3 q hq⟩
theorem zM (prog:Program) (w:World) (OK:Str) (v:Value):v.isStr OK=(strKind prog w).is OK v:=by induction v<;>rfl
variable {Q:Unit->Shared->Prop}
section
variable {l:Nat} {a:Addr} {K:Unit->Hp->Prop} (tk:E5 T P) (c:d9 T W U Y s.heap) (ha:U[l]? =some a) (g:solid v=true) (hv:eP T W U s.heap v w) (k:∀c7 s',K () c7->i4 T W U s c7 U s'->Q () s')
include tk c ha g hv k
theorem jd {f:Txt->Option V} {key:Txt} {t:Tok} (q:IH T W U s.heap a f) (h:(kj P l f key v Y).c4 K X'):wpAny (model T.prog T.w) A (setItem (.ref a) (.str (i3 key) t) w) Q E s:=match q with
 |⟨kws,hd,hs,r,u⟩=>q8 h λhu h=>wpAny_setItem_pairs (hsz:=bp (OV (dW hd u) tk.small)) (isStrOf_self (i3 key) t) hd λh' hd' hs'=>
  have ms:=Z6 (T:=T) (W:=W) ha hs'
  k _ _ h (i4.Z7 (o':=.map (t9 f key (some v))) c ha hs' (tJ hd' hs (λk=>(r k).ms ms) u (tk.fF▸hu) g (hv.ms ms)))
theorem fq {kvs:List (Int×V)} {key:Int} {t:Tok} {kws:List (Int×Value)} (hd:s.heap.DictOf (intKind T.prog T.w) a kws) (hs:(a == sysModules)=false) (q:J8 T U (k9 T W U) s.heap id kvs kws) (hz:kws.length≤1000) (h:K () (Y.set l (.dB (Gi kvs key v)))):
 wpAny (model T.prog T.w) A (setItem (.ref a) (.int key t) w) Q E s:=
 wpAny_setItem_pairs (knd:=intKind T.prog T.w) (k:=key) (hsz:=bp hz) (isInt_self key t) hd λh' hd' hs'=>
  have ms:=Z6 (T:=T) (W:=W) ha hs'
  have q':=(q.ms ms).set (eq:=IY) lK (k:=key) g (hv.ms ms)
  k _ _ h (i4.Z7 (o':=.dB (Gi kvs key v)) c ha hs' ⟨_,hd',hs,q'.e,q'.r⟩)
theorem Ck {o:O} {i:V} {wi:Value} (hi:C5 T W U s.heap i wi) (q:OR T W U s.heap a o) (h:(Jr P l i v o Y).c4 K X'):wpAny (model T.prog T.w) A (setItem (.ref a) wi w) Q E s:=
 w7 h (λh=>a9 h λf ef h=>a9 h λkey ek h=>n8 hi ek λt J=>by
  rw[H5 ef]at q
  exact jd tk c ha g hv k q h) λh=>
 w7 h (λh=>a9 h λf ef h=>a9 h λkey ek h=>q8 h λhz h=>u6 hi ek λt=>by
  rw[fM ef]at q
  exact match q with|⟨kws,hd,hs,e,r⟩=>fq tk c ha g hv k hd hs ⟨e,r⟩ (by rw[←OZ (f:=Prod.fst),e,OZ];exact OO hz) h) λh=>
 a9 h λJ ef h=>by
  rw[W7 ef]at q
  exact match q with
   |⟨n,hs,e⟩=>w7 h (λh=>a9 h λkey ek h=>n8 hi ek λt J=>jd tk c ha g hv k ⟨[],v3 _ e,hs,λJ=>.none,λJ q=>nomatch q⟩ h) (λh=>a9 h λkey ek h=>u6 hi ek λt=>fq tk c ha g hv k (v3 (intKind T.prog T.w) e) hs .nil (Nat.zero_le _) h)
end
theorem qJ (tk:E5 T P) (c:d9 T W U Y s.heap) {o i v:V} {wo wi w:Value} {K:Unit->Hp->Prop} {X':Txt->Hp->Prop} (ho:C5 T W U s.heap o wo) (hi:C5 T W U s.heap i wi) (g:solid v=true) (hv:eP T W U s.heap v w)
 (h:(S7 P o i v Y).c4 K X') (k:∀c7 s',K () c7->i4 T W U s c7 U s'->Q () s'):wpAny (model T.prog T.w) A (setItem wo wi w) Q E s:=
 a9 h λl el h=>a9 h λob eo h=>A9 ho el λa ha=>c.at eo λa' ha' q=>Ck tk c ha g hv k hi (ON (ha'.symm.trans ha)▸q) h
end
theorem qE {K:Type} [DecidableEq K] {kvs:List (K×Value)} {k:K} {v:Value} (h:(kvs.any λkv=>decide (kv.1=k))=true):stored kvs k v=kvs.map λkv=>if kv.1=k then(kv.1,v)else kv:=Pp h
theorem qF {K:Type} [DecidableEq K] {kvs:List (K×Value)} {k:K} {v:Value} (h:k∉kvs.map (·.1)):stored kvs k v=kvs++[(k,v)]:=Pq λe=>match List.any_eq_true.mp e with|⟨kv,hkv,he⟩=>h (List.mem_map.mpr ⟨kv,hkv,OP he⟩)
theorem fZ (xs:Array Value) (n:Nat) (f:Array Value->Array Value) (sl:Array (Option Value)):∃k,Obj.mapSeq f {cls:=.type "list",dict:=none,data:=.seq xs n,slots:=sl}={cls:=.type "list",dict:=none,data:=.seq (f xs) k,slots:=sl}:=⟨_,rfl⟩
section
variable {Q:Unit->Shared->Prop}
theorem kX {l:Addr} {xs:List Value} {k:Int} {t:Tok} {v:Value} (hl:R6 s.heap l xs) (h0:0≤k) (hfit:k < 2 ^ 63) (hn:k < xs.toArray.size)
 (hQ:∀h',R6 h' l (xs.set k.toNat v)->Heap.SameBut l s.heap h'->Q () {s with heap:=h'}):wpAny (model T.prog T.w) A (setItem (.ref l) (.int k t) v) Q E s:=by
 obtain⟨ne,ho⟩:=id hl
 have ht:=hl.list.typeIs
 unfold setItem
 try with_reducible refine Pd ?_
 first|refine OL (OM ?_)|skip
 refine OL (wpAny_sequenceKey ht (by decide) ?_)
 refine OL (wpAny_callSpecial?_slot (name:=Str.ofString "__setitem__") ht slot_list_setitem (wpAny_call_entry slot_list_setitem ht entry_list_setitem ?_ (args_list_setitem _ _ _)))
 show wpAny _ _ (Builtin.List.listSubscript? (.int k t) >>= _) _ _ s
 refine OL (wpAny_listSubscript_int (fitsIndex_of h0 hfit) ?_)
 clear hfit
 obtain⟨j,rfl⟩:=Int.eq_ofNat_of_zero_le h0
 have hj:j < xs.toArray.size:=Int.ofNat_lt.mp hn
 show wpAny _ _ ((seqItemAt l j >>= λr=>pure (r.map (j,·))) >>= _) _ _ s
 refine OL (OL (wpAny_seqItemAt ho rfl (OM ?_)))
 rw[Array.getElem?_eq_getElem hj]
 show wpAny _ _ (setSeqItemAt l j v >>= _) _ _ s
 obtain⟨i,e⟩:=fZ xs.toArray ne (·.setIfInBounds j v) #[]
 have Y1:R6 (s.heap.update l (Obj.mapSeq (·.setIfInBounds j v))) l (xs.set j v):=⟨i,(Heap.get?_update_self _ ho (OY Obj.isFreed e)).trans (OY some (e.trans (OY (λx=>({cls:=.type "list",data:=.seq x i}:Obj)) (List.setIfInBounds_toArray ..))))⟩
 exact OL (wpAny_setSeqItemAt ho rfl (OL (OM (OM ⟨.none,rfl,OM (hQ _ Y1 (Heap.SameBut.update ..))⟩))))
theorem oz {l:Addr} {xs:List Value} {k:Nat} {t:Tok} {v:Value} (hl:R6 s.heap l xs) (hfit:k≤1000) (hn:k < xs.length) (hQ:∀h',R6 h' l (xs.set k v)->Heap.SameBut l s.heap h'->Q () {s with heap:=h'}):wpAny (model T.prog T.w) A (setItem (.ref l) (.int (Int.ofNat k) t) v) Q E s:=
 have h0:(k:Int) < 2 ^ 63:=Int.ofNat_lt.mpr (Pf hfit (by decide))
 kX hl (Pj k) h0 (Int.ofNat_lt.mpr hn) hQ
structure Oz (T:i7) (h:Heap) (d:Addr) (o:Obj) (kvs:List (Str×Value)) (OK:Str) (t:Tok) (v:Value) (es:Array DictEntry) (n:Nat) (es':Array DictEntry) (n':Nat):Prop where
 dict:(h.update d (Obj.putName OK (PyData.keyHash T.w.params OK) (.str OK t) v)).DictOf (strKind T.prog T.w) d (stored kvs OK v)
 dat:o.data=.dict es n
 size:es.size=kvs.length
 noRef:(!es.any (·.key.isStr OK)&&es.any (·.refKey))=false
 at_:(h.update d (Obj.putName OK (PyData.keyHash T.w.params OK) (.str OK t) v)).get? d=some (Obj.putName OK (PyData.keyHash T.w.params OK) (.str OK t) v o)
 KR:(Obj.putName OK (PyData.keyHash T.w.params OK) (.str OK t) v o).data=.dict es' n'
 grow:es'.size≤es.size+1
theorem nZ {d:Addr} {o:Obj} {kvs:List (Str×Value)} {OK:Str} {t:Tok} {v:Value} (hd:h.DictOf (strKind T.prog T.w) d kvs) (ho:h.get? d=some o):∃es n es' n',Oz T h d o kvs OK t v es n es' n':=by
 obtain⟨o',es,ep,ho',hc,hdat,hk,hp,hn⟩:=hd
 cases ho.symm.trans ho'
 have hidx:(es.findIdx? λe=>(strKind T.prog T.w).is OK e.key)=kvs.findIdx? λkv=>decide (kv.1=OK):=by
  rw[←hp.findIdx OK];obtain⟨l⟩:=es;exact List.findIdx?_toArray ..
 have hf:(λe:DictEntry=>e.key.isStr OK)=λe=>(strKind T.prog T.w).is OK e.key:=funext λe=>zM _ _ _ _
 have hsz:es.size=kvs.length:=hp.length.symm▸Array.length_toList.symm
 have hnr:(!es.any (·.key.isStr OK)&&es.any (·.refKey))=false:=by rw[←Array.any_toList (p:=λe:DictEntry=>e.refKey),cX hp,Bool.and_false]
 obtain⟨c,dd,dt,sl⟩:=o
 dsimp only at hdat
 subst hdat
 have hkey:(strKind T.prog T.w).is OK (.str OK t)=true:=isStrOf_self OK t
 induction hi:es.findIdx? λe=>(strKind T.prog T.w).is OK e.key with
 |some i=>
  have e1:Obj.putName OK (PyData.keyHash T.w.params OK) (.str OK t) v ⟨c,dd,.dict es ep,sl⟩=⟨c,dd,.dict (es.modify i λe=>{e with val:=v}) ep,sl⟩:=by rw[Obj.putName_eq];unfold Obj.putNameByArray;dsimp only;rw[hf,hi]
  have h1:=(Heap.get?_update_self (Obj.putName OK (PyData.keyHash T.w.params OK) (.str OK t) v) ho (e1▸rfl))
  have hst:=qE (v:=v) (any_of_findIdx_some (hidx▸hi))
  refine⟨es,ep,_,ep,⟨_,_,ep,h1.trans (OY some e1),hc,rfl,hk.modify _ _,?_,?_⟩,rfl,hsz,hnr,h1,OY Obj.data e1,OV (Nat.le_of_eq Array.size_modify) (Nat.le_succ _)⟩
  ·rw[hst]
   have hl:(es.toList.findIdx? λe=>(strKind T.prog T.w).is OK e.key)=some i:=by rw[←hi];obtain⟨l⟩:=es;exact(List.findIdx?_toArray ..).symm
   have:=hp.modify hn hl v
   obtain⟨l⟩:=es
   rw[List.modify_toArray];exact this
  ·rw[hst,keys_map_store];exact hn
 |none=>
  have e1:Obj.putName OK (PyData.keyHash T.w.params OK) (.str OK t) v ⟨c,dd,.dict es ep,sl⟩=⟨c,dd,.dict (es.push ⟨PyData.keyHash T.w.params OK,.str OK t,v⟩) (ep+1),sl⟩:=by rw[Obj.putName_eq];unfold Obj.putNameByArray;dsimp only;rw[hf,hi]
  have h1:=(Heap.get?_update_self (Obj.putName OK (PyData.keyHash T.w.params OK) (.str OK t) v) ho (e1▸rfl))
  have hnot:OK∉kvs.map (·.1):=not_mem_of_findIdx_none (hidx▸hi)
  have hst:=qF (v:=v) hnot
  refine⟨es,ep,_,ep+1,⟨_,_,ep+1,h1.trans (OY some e1),hc,rfl,hk.push hkey _,?_,?_⟩,rfl,hsz,hnr,h1,OY Obj.data e1,Nat.le_of_eq (Array.size_push ..)⟩
  ·rw[hst,Array.toList_push]
   exact hp.append hkey (PyData.keyHash T.w.params OK) v
  ·rw[hst,List.map_append,List.nodup_append]
   exact⟨hn,List.nodup_cons.mpr ⟨nofun,List.nodup_nil⟩,λa ha b hb e=>hnot ((show a=OK from e.trans (OX hb))▸ha)⟩
theorem Z8 {C a dx:Addr} {kvs:List (Str×Value)} {OK:Str} {v:Value} (X:T.K.In s.heap) (hf:Bo T OK C) (ha:s.heap.get? a=some ⟨.ref C,some dx,.plain,#[]⟩) (hd:s.heap.DictOf (strKind T.prog T.w) dx kvs) (hz:kvs.length≤1000)
 (h:∀h' t,h'.DictOf (strKind T.prog T.w) dx (stored kvs OK v)->Heap.SameBut dx s.heap h'->Q () {s with heap:=h',toks:=t}):wpAny (model T.prog T.w) A (setAttr (.ref a) OK v) Q E s:=by
 obtain⟨od,hod⟩:=l9 hd
 have I:InstAt s.heap a ⟨.ref C,some dx,.plain,#[]⟩ C (some od):=⟨ha,rfl,rfl,hod⟩
 refine set_plain X I hf.s ?_
 refine osa_open (s:={s with toks:=s.toks+1}) X I hf.o hf.t λb=>?_
 obtain⟨cd,hc,hd'⟩:=any_some hf.d
 have X':T.K.In ({s with toks:=s.toks+1}:Shared).heap:=X
 obtain⟨es,n,es',n',p⟩:=nZ (OK:=OK) (t:=s.toks+1) (v:=v) hd hod
 refine OL (OM (OL (OL (wpAny_loadPart ha (OL ((looks_clsIn X' hc).here ?_))))))
 rw[hd']
 refine OM (a:=some dx) (OL (OM (OL ?_)))
 unfold nsSet
 refine OL (OL (wpAny_askSetting (OM (OL (wpAny_mkText (OL (wpAny_loadPart hod ?_)))))))
 rw[p.dat]
 dsimp only
 rw[aRefKeyMayBeTheName_at,p.noRef]
 refine wpAny_updatePart hod ?_
 refine OL (wpAny_lookBehind p.at_ (by rw[p.KR];exact pastItsLine_dict (OV p.grow (by rw[p.size,sizeLine_eq];exact OV (Nat.succ_le_succ hz) (by decide)))) ?_)
 exact OM (h _ _ p.dict (Heap.SameBut.update ..))
theorem nM (tk:E5 T P) (c:d9 T W U Y s.heap) {o v:V} {wo w:Value} {a:Nat} {K:Unit->Hp->Prop} {X':Txt->Hp->Prop} (ho:C5 T W U s.heap o wo) (hf:T.nm a∈T.SF) (g:solid v=true) (hv:eP T W U s.heap v w)
 (h:(fx P o a v Y).c4 K X') (k:∀c7 s',K () c7->i4 T W U s c7 U s'->Q () s'):wpAny (model T.prog T.w) A (setAttr wo (T.nm a) w) Q E s:=
 a9 h λq eq h=>a9 h λnm en h=>q8 h λhu h=>gu c ho eq λad hf' i=>match i with
  |⟨k',C,dx,hC,hob,hdx,⟨kws,hd,hs,r,u⟩⟩=>Z8 (k7 tk c) (tk.sf _ hf k' C hC) hob hd (OV (dW hd u) tk.small) λh' t hd' hs'=>
   have ms:=Z6 (T:=T) (W:=W) hdx hs'
   k _ _ h (i4.Z7 (o':=.map (t9 q.2 nm (some v))) c hdx hs' (tJ (tk.LJ a nm en▸hd') hs (λk=>(r k).ms ms) u (tk.fF▸hu) g (hv.ms ms)))
end
inductive qf (T:i7) (kd:Kd):Mine.T->Ex->Prop
 |OK (x:Nat) (p:Pos):s6 T kd x->qf T kd (.OK x) (.Name (T.nm x) p)
 |B4 (x:Nat) (p:Pos):s6 T kd x->qf T kd (.B4 x) (.Name (T.nm x) p)
 |attr (o:X) (a:Nat) (o':Ex) (p:Pos):Tr T kd o o'->T.nm a∈T.SF->qf T kd (.attr o a) (.Attribute o' (T.nm a) p)
 |item (o i:X) (o' i':Ex) (p:Pos):Tr T kd o o'->Tr T kd i i'->qf T kd (.item o i) (.Subscript o' i' p)
 |Y6 (x:Nat) (i:X) (o' i':Ex) (p:Pos):Tr T kd (.OK x) o'->Tr T kd i i'->qf T kd (.Y6 x i) (.Subscript o' i' p)
@[elab_as_elim] theorem oy {v u:V} {G:V->Prop} (e:tK v=some u) (k:made v=true->G v):G u:=by
 cases v<;>first|exact ns e|(cases e;exact k rfl)
section
variable {x:Nat}
@[elab_as_elim] theorem FV.fU {xs:List V} {G:Value->Prop} (f:FV T W U h own x (.g6 xs) w) (k:∀ws a,(x,a)∈own->R6 h a ws->E4 T W U h xs ws->G (.ref a)):G w:=by
 cases f with
 |ml _ ws a o l r=>exact k ws a o l r
 |pl _ _ g=>exact Bool.noConfusion g
@[elab_as_elim] theorem FV.zh {kvs:List (Txt×V)} {G:Value->Prop} (f:FV T W U h own x (.E2 kvs) w) (k:∀a,(x,a)∈own->V1 T U (k9 T W U) h kvs a->G (.ref a)):G w:=by
 cases f with
 |md _ a o q=>exact k a o q
 |pl _ _ g=>exact Bool.noConfusion g
structure sL (T:i7) (W:r9) (U:List Addr) (h:Heap) (own:List (Nat×Addr)) (x c:Nat) (at_:Fr) (C a dx:Addr) (kws:List (Str×Value)):Prop where
 o:(x,a)∈own
 o':(x,dx)∈own
 hC:T.cls c=some C
 ha:h.get? a=some ⟨.ref C,some dx,.plain,#[]⟩
 hd:h.DictOf (strKind T.prog T.w) dx kws
 r:J8 T U (k9 T W U) h T.nm at_ kws
@[elab_as_elim] theorem FV.JJ {c:Nat} {at_:Fr} {G:Value->Prop} (f:FV T W U h own x (.cu c at_) w) (k:∀C a dx kws,sL T W U h own x c at_ C a dx kws->G (.ref a)):G w:=by
 cases f with
 |mo _ _ C a dx kws o o' hc ha hd r=>exact k C a dx kws ⟨o,o',hc,ha,hd,r⟩
 |pl _ _ g r=>cases r with
  |G4 _ _ r=>cases r
  |jo _ _ _ _ e=>exact ns e
  |mX _ _ _ _ e=>exact ns e
theorem FV.loc {v:V} {i:Nat} (f:FV T W U h own x v w) (e:L2 v=some i):C5 T W U h v w:=by
 rw[U8 e]at f⊢
 cases f with|pl _ _ _ r=>exact .mk _ _ r
theorem sL.ne {c:Nat} {at_:Fr} {C a dx:Addr} {kws:List (Str×Value)} (q:sL T W U h own x c at_ C a dx kws):a≠dx:=λy=>match q.hd with
 |⟨o,es,ep,e1,_,e2,_⟩=>nomatch (OY Obj.data (ON ((show h.get? dx=some ⟨.ref C,some dx,.plain,#[]⟩from y▸q.ha).symm.trans e1))).trans e2
end
section
variable {Q:Unit->Shared->Prop} {K:Fr->Hp->Prop}
theorem fh (tk:E5 T P) (f:Fs F z m Y) {x:Nat} (hs:cS F x) (gv:Gv F z v w) (h:(store P r (.OK x) v m Y).c4 K X') (k:∀m' c7 z',K m' c7->Fs F z' m' c7->Q () z'.s):wpAny (model T.prog T.w) F.A (storeName F.env (T.nm x) w) Q E z.s:=
 a9 h λv' e h=>f.freeze gv e λW' f g r=>f.store (z:=⟨W',z.own,z.U,z.s⟩) tk hs g r λs' f=>k _ _ _ h f
theorem bV (tk:E5 T P) (f:Fs F z m Y) {x:Nat} (hs:cS F x) (gv:Gv F z v w) (h:(store P r (.B4 x) v m Y).c4 K X') (k:∀m' c7 z',K m' c7->Fs F z' m' c7->Q () z'.s):wpAny (model T.prog T.w) F.A (storeName F.env (T.nm x) w) Q E z.s:=
 a9 h λv' e h=>by
  revert h
  exact oy e λhm h=>f.keep x gv hm λC1 f fv=>f.sZ (z:=⟨z.W,C1,z.U,z.s⟩) tk hs fv λs' f=>k _ _ _ h f
theorem SameBut.there {a:Addr} {h h':Heap} (x:Heap.SameBut a h h') (t:∃o,h'.get? a=some o):∀b o,h.get? b=some o->∃o',h'.get? b=some o':=λb o e=>Classical.byCases (λq:b=a=>q▸t) λq=>⟨o,(x.2 b q).trans e⟩
theorem SameBut.off {a:Addr} {h h':Heap} (x:Heap.SameBut a h h'):Off (λb=>b=a) h h':=λb o e q=>(x.2 b q).trans e
theorem Fs.eX (f:Fs F z m Y) {x:Nat} {v v':V} {w:Value} {a:Addr} {h':Heap} {t:Nat} (hx:d6 m x=some v) (hd:n7 z.W F.env z.s.heap (T.nm x) w) (ho:(x,a)∈z.own) (hs:Heap.SameBut a z.s.heap h') (ht:∃o,h'.get? a=some o)
 (fv:Ms z.U z.U (k9 T z.W z.U) (k9 T z.W z.U) (λb=>b=a) z.s.heap h'->FV T z.W z.U h' z.own x v' w):Fs F (z.hp h' t) (putN m x v') Y:=
 f.turn (D:=λb=>b=a) hx (λb e=>(show b=a from e)▸ho) (SameBut.off hs) (SameBut.there hs ht) λw' hw ms J=>hd.unique hw▸fv ms
theorem uZ (tk:E5 T P) (f:Fs F z m Y) {x a:Nat} {o v:V} {w wo:Value} (hf:T.nm a∈T.SF) (e:d6 m x=some o) (hd:n7 z.W F.env z.s.heap (T.nm x) wo) (fv:FV T z.W z.U z.s.heap z.own x o wo) (g:solid v=true) (hv:eP T z.W z.U z.s.heap v w) {q:Nat×Fr} (eq:Ei o=some q) (hz:q.2.length≤1000)
 (k:∀z',Fs F z' (putN m x (.cu q.1 (putN q.2 a v))) Y->Q () z'.s):wpAny (model T.prog T.w) F.A (setAttr wo (T.nm a) w) Q E z.s:=by
 rw[Eh eq]at e fv
 refine FV.JJ (G:=λwo=>n7 z.W F.env z.s.heap (T.nm x) wo->wpAny (model T.prog T.w) F.A (setAttr wo (T.nm a) w) Q E z.s) fv (λC ad dx kws q' hd=>?_) hd
 exact Z8 (k7 tk f.cx.rel) (tk.sf _ hf _ C q'.hC) q'.ha q'.hd (by rw[←OZ (f:=Prod.fst),q'.r.e,OZ];exact hz) λh' t hd' hs'=>k (z.hp h' t) (f.eX e hd q'.o' hs' (l9 hd') λms=>
  .mo _ _ C ad dx _ q'.o q'.o' q'.hC ((hs'.2 ad q'.ne).trans q'.ha) hd' ((q'.r.ms ms).set (X0 tk) g (hv.ms ms)))
theorem store_attr (tk:E5 T P) (f:Fs F z m Y) {x a:Nat} {v:V} {w wo:Value} {o:V} (hf:T.nm a∈T.SF) (e:d6 m x=some o) (hd:n7 z.W F.env z.s.heap (T.nm x) wo) (fv:FV T z.W z.U z.s.heap z.own x o wo) (g:solid v=true) (hv:eP T z.W z.U z.s.heap v w)
 (h:(cY ((b8 122 (Ei o) Y).bind λq Y=>bif Nat.ble q.2.length 1000 then .ok (putN m x (.cu q.1 (putN q.2 a v))) Y else .no 122) ((fx P o a v Y).bind λJ Y=>.ok m Y)).c4 K X')
 (k:∀m' c7 z',K m' c7->Fs F z' m' c7->Q () z'.s):wpAny (model T.prog T.w) F.A (setAttr wo (T.nm a) w) Q E z.s:=
 w7 h (λh=>a9 h λq eq h=>q8 h λhz h=>uZ tk f hf e hd fv g hv eq (OO hz) λz' f=>k _ _ z' h f) λh=>
  have h:=R.d5.mp h
  a9 h λq eq J=>a0 eq λi ei J=>nM tk f.cx.rel (fv.loc ei) hf g hv h λc7 s' h o=>k m c7 (z.to z.U s') h (f.step o)
theorem z1.set {T:i7} {U:List Addr} {bad:Addr->Prop} {h:Heap} (j:Nat):∀{xs:List V} {ws:List Value},z1 T U bad h xs ws->solid v=true->VS T U bad h v w->z1 T U bad h (xs.set j v) (ws.set j w):=by
 induction j with
 |zero=>exact λq g a=>by cases q with
  |nil=>exact .nil
  |cons _ _ _ _ _ _ q=>exact .cons _ _ _ _ g a q
 |succ j ih=>exact λq g a=>by cases q with
  |nil=>exact .nil
  |cons _ _ _ _ g' a' q=>exact .cons _ _ _ _ g' a' (ih q g a)
theorem nA (tk:E5 T P) (f:Fs F z m Y) {x:Nat} {i u v:V} {w wo wi:Value} {o:V} (e:d6 m x=some o) (hd:n7 z.W F.env z.s.heap (T.nm x) wo) (fv:FV T z.W z.U z.s.heap z.own x o wo) (hi:C5 T z.W z.U z.s.heap i wi) (g:solid v=true) (hv:eP T z.W z.U z.s.heap v w)
 (eu:(((sE o).bind λkvs=>EE kvs i v).or <|(xm o).bind λxs=>ED xs i v)=some u) (k:∀z',Fs F z' (putN m x u) Y->Q () z'.s):wpAny (model T.prog T.w) F.A (setItem wo wi w) Q E z.s:=
 i0 eu (λeu=>a0 eu λkvs ek eu=>a0 eu λkey ei eu=>i9 eu λhz eu=>by
  rw[mj ek]at e fv;subst eu
  refine n8 hi ei λt J=>FV.zh (G:=λwo=>n7 z.W F.env z.s.heap (T.nm x) wo->wpAny (model T.prog T.w) F.A (setItem wo (.str (i3 key) t) w) Q E z.s) fv (λa ho q hd=>q.Bt λkws d hs r=>?_) hd
  exact wpAny_setItem_pairs (hsz:=bp (by rw[←OZ (f:=Prod.fst),r.e,OZ];exact OO hz)) (isStrOf_self (i3 key) t) d λh' hd' hs'=>k (z.hp h' _) (f.eX e hd ho hs' (l9 hd') λms=>.md _ a ho (((r.ms ms).set D2 g (hv.ms ms)).uq hd' hs))) λeu=>
 a0 eu λxs ex eu=>a0 eu λkey ei eu=>d8 eu λj ej eu=>by
  rw[eK ex]at e fv;subst eu
  refine u6 hi ei λt=>zI (G:=λkey=>wpAny (model T.prog T.w) F.A (setItem wo (.int key t) w) Q E z.s) ej λhj hj'=>FV.fU (G:=λwo=>n7 z.W F.env z.s.heap (T.nm x) wo->wpAny (model T.prog T.w) F.A (setItem wo (.int (Int.ofNat j) t) w) Q E z.s) fv (λws a ho l q hd=>?_) hd
  exact oz l hj' (q.length.symm▸hj) λh' hd' hs'=>k (z.hp h' z.s.toks) (f.eX e hd ho hs' hd'.there λms=>.ml _ _ a ho hd' ((q.ms ms).set j g (hv.ms ms)))
theorem FV.step {x:Nat} {o:V} {wo:Value} {c7:Hp} {d7:List Addr} {s':Shared} (f:Fs F z m Y) (fv:FV T z.W z.U z.s.heap z.own x o wo) (k:i4 T z.W z.U z.s c7 d7 s'):FV T z.W d7 s'.heap z.own x o wo:=fv.mv k.ext.ms λa ha=>k.ext.ownAt f.cx.rel.o5 (f.cx.fr.own x a ha)
theorem n7.step {y:Str} {wo:Value} {c7:Hp} {d7:List Addr} {s':Shared} (f:Fs F z m Y) (hd:n7 z.W F.env z.s.heap y wo) (k:i4 T z.W z.U z.s c7 d7 s'):n7 z.W F.env s'.heap y wo:=hd.mv (λJ q=>q) (λf' n=>T1 n (k.ext.slots _ f.cx.fr.Y0)) λa ha=>k.ext.ownAt f.cx.rel.o5 ha
theorem iX (tk:E5 T P) (cn:kc F) (hr:g7 T n r.ev) (rm:N7 F.A n) (f:Fs F z m Y) {t:Mine.T} {t':Ex} (tt:qf T F.env.kindOf t t') (gv:Gv F z v w) (h:(store P r t v m Y).c4 K (XF F E)) (k:∀m' c7 z',K m' c7->Fs F z' m' c7->Q () z'.s):wpAny (model T.prog T.w) F.A (assign t' F.env w) Q E z.s:=by
 induction tt with
 |OK x p hs=>exact assign_Name (fh tk f (hs.La cn) gv h k)
 |B4 x p hs=>exact assign_Name (bV tk f (hs.La cn) gv h k)
 |attr o a o' p to hf=>
  rw[arm_assign_Attribute]
  exact a9 h λx ex h=>a9 h λv' e h=>a9 h λov eo h=>f.freeze gv e λW' f g hv=>by
   rw[uF ex]at to
   exact OL (Pd (aU (f.mY rm) to eo λwo hd fv=>OL (Pk (OL (Pd (store_attr tk f hf eo hd fv g hv h λm' c7 z' h f=>wpAny_release (k m' c7 z' h f)))))))
 |item o i o' i' p to ti=>
  rw[arm_assign_Subscript]
  refine a9 h λv' e h=>f.freeze gv e λW' f g hv=>OL (Pd (f.eval hr rm to h λov c9 wo c5 c8 w3 vo J h=>OL (Pd ((f.step w3).eval hr rm ti h λiv n9 wi l3 o7 i8 vi J h=>?_))))
  exact OL (Pk (OL (Pd (qJ tk i8.rel (i8.ext.vr vo) vi g (i8.ext.vs (w3.ext.vs hv)) (R.d5.mp h) λEu w9 h ko=>wpAny_release (k _ _ _ h (((f.step w3).step i8).step ko))))))
 |Y6 x i o' i' p to ti=>
  rw[arm_assign_Subscript]
  refine a9 h λv' e h=>a9 h λov eo h=>f.freeze gv e λW' f g hv=>OL (Pd (aU (f.mY rm) to eo λwo hd fv=>OL (Pd (f.eval hr rm ti h λiv n9 wi l3 o7 i8 vi J h=>?_))))
  have hd:=n7.step f hd i8
  have fv:=FV.step f fv i8
  exact OL (Pk (OL (Pd (a9 h λu eu h=>nA tk (f.step i8) eo hd fv vi g (i8.ext.vs hv) eu λz' f=>wpAny_release (k _ _ z' h f)))))
end
structure Tb (e:Addr) (oe:Obj) (h h':Heap) (tt:Addr) (oT:Obj) (ts vs':Array Value):Prop where
 new:h.get? tt=none
 at_:h'.get? tt=some oT
 dat:oT.data=.fields ts
 n3:ts[3]? =some .none
 exc:h'.get? e=some {oe with data:=.fields vs'}
 ref:vs'[1]? =some (.ref tt)
structure NW (fr:List Addr) (e:Addr) (oe:Obj) (vs:Array Value) (h h':Heap):Prop where
 keep:∀b o,h.get? b=some o->b≠e->vs[1]?≠some (.ref b)->b∉fr->h'.get? b=some o
 there:∀b o,h.get? b=some o->∃o',h'.get? b=some o'
 slots:∀b o,h.get? b=some o->b∈fr->∃sl,h'.get? b=some {o with slots:=sl}
 head:∃tt oT ts vs',Tb e oe h h' tt oT ts vs'
section
variable {M:Model} {Q:Unit->Shared->Prop}
theorem ba {o:Obj} {vs:Array Value} (hd:o.data=.fields vs) (f:Array Value->Array Value):Obj.mapFields f o={o with data:=.fields (f vs)}:=by
 obtain⟨c,d,dt,sl⟩:=o
 cases hd
 rfl
structure Lay (fr:List Addr) (e:Addr) (oe:Obj) (h h':Heap):Prop where
 keep:∀b o,h.get? b=some o->b≠e->b∉fr->h'.get? b=some o
 slots:∀b o,h.get? b=some o->b∈fr->∃sl,h'.get? b=some {o with slots:=sl}
 head:∃tt oT ts vs',Tb e oe h h' tt oT ts vs'
theorem pe {B:Heap} {env:Env} {outer:List Env} {L e:Addr} {oe:Obj} {vs:Array Value} {head:Value} {hadNext:Bool}
 (hfr:A.frames=some (env::outer)) (hl:s.heap.FunFrames B (env::outer)) (hf:env.frame=some L)
 (he:s.heap.get? e=some oe) (hd:oe.data=.fields vs) (hsz:1 < vs.size)
 (h:∀h',Lay ((env::outer).filterMap (·.frame)) e oe s.heap h'->Q () {s with heap:=h'}):
 wpAny M A (do let a←frameOf env;let pl←entryPlaceOf L hadNext;let b←EntryCells.newEntry head a .none (rawInt L) .none pl;setField (.ref e) 1 b) (λJ s'=>wpAny M A (setFlight (.ref e) none) Q E s') E s:=by
 have hne:e∉(env::outer).filterMap (·.frame):=λhm=>by
  obtain⟨_,o,ho,hnf⟩:=hl.mem hm
  cases he.symm.trans ho;exact hnf vs hd
 refine OL (wpAny_frameOf_fun hfr hl hf λg hg=>?_)
 refine OL (wpAny_entryPlaceOf λpl hpl=>?_)
 unfold EntryCells.newEntry newFields
 refine OL (wpAny_newObj_type ?_ (hpl.sizeOk5 _ _ _ _ _))
 have e1:g.get? e=some oe:=(hg.2.1 e hne).trans he
 generalize ho:({cls:=.type "traceback",dict:=none,data:=.fields ([head,.ref L,.none,rawInt L,.none]++(if pl.isEmpty then List.replicate 6 Value.none else pl)).toArray}:Obj)=ob
 have hfreed:ob.isFreed=false:=ho▸rfl
 obtain⟨ws,hws,hw3⟩:∃ws,ob.data=.fields ws∧3 < ws.size:=ho▸⟨_,rfl,by simp only[Ph,List.length_append,List.length_cons,List.length_nil];exact Nat.lt_of_lt_of_le (by decide:3 < 5) (Nat.le_add_right 5 _)⟩
 have e2:(g.push ob).get? e=some oe:=OT _ e1
 have hT:g.objs.size≠e:=Nat.ne_of_gt (Pu e1)
 refine wpAny_setField e2 hd hsz ?_
 have d3:=Obj.data_mapFields hd (·.setIfInBounds 1 (Value.ref g.objs.size))
 have e3:=Heap.get?_update_self (Obj.mapFields (·.setIfInBounds 1 (Value.ref g.objs.size))) e2 (Obj.isFreed_of_fields d3)
 have t3:=(Heap.get?_update_other (g.push ob) (Obj.mapFields (·.setIfInBounds 1 (Value.ref g.objs.size))) (Ne.symm hT)).trans (OU g hfreed)
 unfold setFlight
 refine OL (wpAny_field e3 d3 (x:=.ref g.objs.size) (Array.getElem?_setIfInBounds_self_of_lt hsz) ?_)
 rw[Pp (show(Value.ref g.objs.size != Value.none)=true from rfl)]
 refine wpAny_setField t3 hws hw3 (h _ ?_)
 have d4:=Obj.data_mapFields hws (·.setIfInBounds 3 ((none:Option Addr).elim Value.none λf=>rawInt f))
 have t4:=Heap.get?_update_self (Obj.mapFields (·.setIfInBounds 3 ((none:Option Addr).elim Value.none λf=>rawInt f))) t3 (Obj.isFreed_of_fields d4)
 have keep:∀b o,b≠e->g.get? b=some o->(((g.push ob).update e (Obj.mapFields (·.setIfInBounds 1 (Value.ref g.objs.size)))).update g.objs.size (Obj.mapFields (·.setIfInBounds 3 ((none:Option Addr).elim Value.none λf=>rawInt f)))).get? b=some o:=λb o hbe hb=>
  (Heap.get?_update_other _ _ (Nat.ne_of_gt (Pu hb))).trans ((Heap.get?_update_other _ _ (Ne.symm hbe)).trans (OT _ hb))
 exact⟨λb o hb hbe hbf=>keep b o hbe ((hg.2.1 b hbf).trans hb),λb o hb hbf=>(hg.2.2 b o hb).elim λsl e=>⟨sl,keep b _ (λq=>hne (q▸hbf)) e⟩,g.objs.size,_,_,vs.setIfInBounds 1 (Value.ref g.objs.size),by rw[hg.1];exact none_at_size _,t4,d4,Array.getElem?_setIfInBounds_self_of_lt hw3,
  by rw[Heap.get?_update_other _ _ hT,e3,ba hd],Array.getElem?_setIfInBounds_self_of_lt hsz⟩
theorem Lay.NK {fr:List Addr} {e:Addr} {oe:Obj} {vs:Array Value} {h h':Heap} (x:Lay fr e oe h h'):NW fr e oe vs h h':=
 ⟨λb o hb hbe J hbf=>x.keep b o hb hbe hbf,λb o hb=>Classical.byCases (λq:b=e=>match x.head with|⟨_,_,_,_,t⟩=>⟨_,q▸t.exc⟩) λq=>Classical.byCases (λq2:b∈fr=>(x.slots b o hb q2).elim λJ k=>⟨_,k⟩) λq2=>⟨o,x.keep b o hb q q2⟩,x.slots,x.head⟩
theorem CJ {B:Heap} {env:Env} {outer:List Env} {L e:Addr} {oe:Obj} {vs:Array Value} {W:r9} {s0:Shared} (hfr:A.frames=some (env::outer)) (hl:s.heap.FunFrames B (env::outer)) (hf:env.frame=some L)
 (he:s.heap.get? e=some oe) (hd:oe.data=.fields vs) (ht:mH W s0 s.heap e vs[1]?) (h:∀h',NW ((env::outer).filterMap (·.frame)) e oe vs s.heap h'->Q () {s with heap:=h'}):
 wpAny M A (noteFrame (.ref e) env) (λJ s'=>wpAny M A (setFlight (.ref e) none) Q E s') E s:=by
 unfold noteFrame
 simp only[hf]
 generalize hx:vs[1]? =x at ht
 induction ht with
 |none=>
  refine OL (wpAny_field he hd hx ?_)
  rw[Pq (by decide)]
  exact pe hfr hl hf he hd (Array.getElem?_eq_some_iff.mp hx).1 λh' x=>h h' x.NK
 |some tt oT ts _ hTe _ hT hdT h3=>
  refine OL (wpAny_field he hd hx ?_)
  rw[Pp (show(Value.ref tt != Value.none)=true from rfl)]
  refine OL (wpAny_field hT hdT h3 ?_)
  rw[Pq (show¬((Value.none == rawInt L)=true)from λq=>nomatch q)]
  refine OL (wpAny_setField hT hdT (Array.getElem?_eq_some_iff.mp h3).1 ?_)
  have other:∀b,b≠tt->(s.heap.update tt (Obj.mapFields (·.setIfInBounds 3 Value.none))).get? b=s.heap.get? b:=λb hb=>Heap.get?_update_other _ _ (Ne.symm hb)
  have nT:tt∉(env::outer).filterMap (·.frame):=λhm=>by
   obtain⟨_,o,ho,hnf⟩:=hl.mem hm
   cases hT.symm.trans ho;exact hnf ts hdT
  have d2:=Obj.data_mapFields hdT (·.setIfInBounds 3 Value.none)
  have t2:=Heap.get?_update_self (Obj.mapFields (·.setIfInBounds 3 Value.none)) hT (Obj.isFreed_of_fields d2)
  refine pe (s:={s with heap:=s.heap.update tt (Obj.mapFields (·.setIfInBounds 3 Value.none))}) (e:=e) (oe:=oe) hfr (hl.of_keeps λb o hb hnf=>⟨o,(other b λq=>by subst q;cases hT.symm.trans hb;exact hnf ts hdT).trans hb,rfl⟩) hf ((other e (Ne.symm hTe)).trans he) hd (Array.getElem?_eq_some_iff.mp hx).1 λh' x=>h h' ?_
  have l:=x.NK (vs:=vs)
  exact⟨λb o hb hbe hbt hbf=>l.keep b o ((other b λq=>hbt (q▸hx)).trans hb) hbe hbt hbf,λb o hb=>Classical.byCases (λq:b=tt=>q.symm▸l.there tt _ t2) λq=>l.there b o ((other b q).trans hb),λb o hb hbf=>l.slots b o ((other b λq=>nT (q▸hbf)).trans hb) hbf,
   match l.head with|⟨t',oT',ts',vs',k⟩=>⟨t',oT',ts',vs',(other t' λq=>d0 (show(s.heap.update tt (Obj.mapFields (·.setIfInBounds 3 Value.none))).get? tt=none from q▸k.new) t2).symm.trans k.new,k.at_,k.dat,k.n3,k.exc,k.ref⟩⟩
end
section
variable {E':Value->Shared->Prop} {outer:List Env} {e:Value} {t:Txt}
inductive Lo (F:Fx T) (U:List Addr) (s:Shared) (Y:Hp) (t:Txt) (e:Value) (s':Shared):Prop
 |mk (W':r9) (o:i4 T F.W0 F.Z4 F.s0 Y U s') (x:sN T F.W0 F.s0 U Y s'.heap t e) (v5:In F.W0 W' F.s0) (l:F.env.locals∈W'.l6) (r:d9 T W' U Y s'.heap) (x':sN T W' F.s0 U Y s'.heap t e) (sl:∀ob,s.heap.get? F.env.locals=some ob->∃sl,s'.heap.get? F.env.locals=some {ob with slots:=sl})
theorem om {A:Around} (v5:In F.W0 W F.s0) (hA:A.frames=some (F.env::outer)) (hB:F.s0.heap.FunFrames T.B outer) (hfr:∀env∈outer,∀L,env.frame=some L->L∈F.W0.l6)
 (hL:F.env.locals∈W.l6) (hk:F.env.scope.kind=.function) (hf:F.env.frame=some F.env.locals) (ht:I0 F.env.locals s.heap) (hLB:T.B.get? F.env.locals=none) (o:i4 T F.W0 F.Z4 F.s0 Y U s) (x:sN T W F.s0 U Y s.heap t e) (h:∀s',Lo F U s Y t e s'->E e s'):
 wpAny (model T.prog T.w) A (noteFrame e F.env) (λJ s'=>wpAny (model T.prog T.w) A (setFlight e none) (λJ s''=>E e s'') E' s') E' s:=by
 induction x with
 |mk ea dx W' oe vs kws k g rel ho hn dh dn asc he hcls hdict hdat hd hv tb=>
 have fsAll:s.heap.FunFrames T.B (F.env::outer):=ht.elim λoL q=>⟨(by rw[hk];decide),⟨F.env.locals,oL,hf,hLB,q.1,q.2⟩,Q3 o.ext.off hB λenv he L hL J ob e hd=>(o.ext.slots L (hfr env he L hL) ob e).elim λsl e'=>⟨_,e',hd⟩⟩
 have inFrs:∀b,b∈(F.env::outer).filterMap (·.frame)->b∈W'.l6:=λb hb=>match List.mem_filterMap.mp hb with
  |⟨e1,he1,he2⟩=>g.l6▸(OW he1).elim (λq=>ON (hf.symm.trans ((show e1=F.env from q)▸he2))▸hL) λhe1=>v5.l6 b (hfr e1 he1 b he2)
 refine CJ hA fsAll hf he hdat tb λh' x=>?_
 obtain⟨t',oT',ts',vs',tx⟩:=x.head
 let D:Addr->Prop:=λb=>b=ea∨vs[1]? =some (.ref b)∨b∈(F.env::outer).filterMap (·.frame)
 have tbOwn:∀b,vs[1]? =some (.ref b)->b∈W'.own∧F.s0.heap.get? b=none:=λb k1=>by
  rw[k1]at tb
  cases tb with|some _ _ _ o _ n=>exact⟨o,n⟩
 have hD:∀b,D b->b∈W'.l6∨(b∈W'.own∧F.s0.heap.get? b=none):=λb q=>q.elim (λq=>.inr (q▸⟨ho,hn⟩)) λq=>q.elim (λq=>.inr (tbOwn b q)) λq=>.inl (inFrs b q)
 have T8:Off D s.heap h':=λb ob e q=>x.keep b ob e (λk=>q (.inl k)) (λk=>q (.inr (.inl k))) λk=>q (.inr (.inr k))
 have rel':d9 T (W'.add [t']) U Y h':=rel.move (S:=D) (λa q=>(R1 q).elim (λq=>.inr ((OX q)▸tx.new)) .inl) T8 (λb q=>(hD b q).imp id (·.1))
  ⟨λa ha=>(OW ha).elim (λq=>⟨λk=>rel.N3 (q▸tx.new) (A7.bad k),q▸⟨_,tx.at_⟩⟩) λq=>⟨((rel.o5.keeps x.there).own a q).nm,((rel.o5.keeps x.there).own a q).ex⟩,λa ha=>⟨((rel.o5.keeps x.there).l6 a ha).nr,((rel.o5.keeps x.there).l6 a ha).nt,((rel.o5.keeps x.there).l6 a ha).ex⟩⟩
 have t0:F.s0.heap.get? t'=none:=o.ext.since tx.new
 have inn':In F.W0 (W'.add [t']) F.s0:=⟨λa ha=>g.l6▸v5.l6 a ha,λa ha=>OS _ (g.own a (v5.own a ha)),λa ha=>v5.gE a (g.l6▸ha),λa ha=>(OW ha).elim (λq=>.inr (q▸t0)) λq=>(g.C1 a q).elim (v5.C1 a) .inr⟩
 have dxD:¬D dx:=λq=>match hd with
  |⟨o1,es,ep,e1,_,e2,_⟩=>q.elim (λq=>nomatch hdat.symm.trans ((OY Obj.data (ON ((q▸he).symm.trans e1))).trans e2)) λq=>q.elim (λq=>by
   rw[q]at tb
   cases tb with|some _ oT ts _ _ _ k2 k3=>exact nomatch k3.symm.trans ((OY Obj.data (ON (k2.symm.trans e1))).trans e2)) λq=>(rel.o5.own _ dh).nm (.inr (.inl (inFrs dx q)))
 have new:∀a ob,F.s0.heap.get? a=some ob->D a->a∈F.W0.l6:=λa ob e q=>(hD a q).elim (λq=>(v5.gE a (g.l6▸q)).elim id λq=>d0 q e) λq=>d0 q.2 e
 have tok:∀{Wx:r9},(∀a,a∈(W'.add [t']).own->a∈Wx.own)->mH Wx F.s0 h' ea vs'[1]?:=λk=>tx.ref.symm▸.some t' oT' ts' (k _ (.head _)) (λk=>d0 tx.new (k▸he)) t0 tx.at_ tx.dat tx.n3
 have i2:In ⟨F.W0.l6,(W'.add [t']).own⟩ (W'.add [t']) F.s0:=⟨inn'.l6,λJ q=>q,inn'.gE,λJ q=>.inl q⟩
 exact h _ ⟨W'.add [t'],⟨⟨o.ext.pre,o.ext.new,λa ob e q=>T8 a ob (o.ext.off a ob e q) λk=>q (.inr (.inl (new a ob e k))),λa ob e=>(o.ext.there a ob e).elim (x.there a),λa ha ob e=>(o.ext.slots a ha ob e).elim λsl e1=>
  Classical.byCases (λq:a∈(F.env::outer).filterMap (·.frame)=>(x.slots a _ e1 q).elim λsl' e2=>⟨sl',e2⟩) λq=>⟨sl,T8 a _ e1 λk=>k.elim (λk=>d0 hn (k▸e)) λk=>k.elim (λk=>d0 (tbOwn a k).2 e) q⟩,o.ext.gens,o.ext.os,o.ext.drawn⟩,rel'.shrink inn'⟩,
  .mk ea dx ⟨F.W0.l6,(W'.add [t']).own⟩ _ vs' kws k ⟨rfl,inn'.own,inn'.C1⟩ (rel'.shrink i2) (OS _ ho) hn (OS _ dh) dn asc tx.exc hcls hdict rfl (B7 hd (T8.at dxD)) hv (tok λJ q=>q),
  inn',g.l6▸hL,rel',.mk ea dx (W'.add [t']) _ vs' kws k s8.refl rel' (OS _ ho) hn (OS _ dh) dn asc tx.exc hcls hdict rfl (B7 hd (T8.at dxD)) hv (tok λJ q=>q),λob e=>x.slots _ ob e (List.mem_filterMap.mpr ⟨F.env,.head _,hf⟩)⟩
theorem js {A:Around} (v5:In F.W0 W F.s0) (hA:A.frames=some (F.env::outer)) (hB:F.s0.heap.FunFrames T.B outer) (hfr:∀env∈outer,∀L,env.frame=some L->L∈F.W0.l6)
 (hL:F.env.locals∈W.l6) (hk:F.env.scope.kind=.function) (hf:F.env.frame=some F.env.locals) (ht:I0 F.env.locals s.heap) (hLB:T.B.get? F.env.locals=none) (o:i4 T F.W0 F.Z4 F.s0 Y U s) (x:sN T W F.s0 U Y s.heap t e) (h:XV T F.W0 F.Z4 F.s0 E t Y):
 wpAny (model T.prog T.w) A (leaving F.env e) (λJ s''=>E e s'') E' s:=
 OL (om v5 hA hB hfr hL hk hf ht hLB o x λs' q=>match q with|.mk _ o x _ _ _ _ _=>h _ s' U o x)
end
section
variable {B:List (Str×Value)->(Str->Option Value)->Str->Option Value} {c:Str->Prop} [DecidablePred c] (h0:∀m,B [] m=m) (h1:∀n v r m,B ((n,v)::r) m=B r (if c n then λy=>if y=n then some v else m y else m))
include h0 h1
theorem xf {y:Str} {bs:List (Str×Value)}:∀{m:Str->Option Value},(∀b,b∈bs->b.1≠y)->B bs m y=m y:=by
 induction bs with
 |nil=>exact λJ=>congrFun (h0 _) y
 |cons b r ih=>
  intro m h
  rw[show b=(b.1,b.2)from rfl,h1,ih λb hb=>h b (.tail _ hb)]
  by_cases q:c b.1
  ·rw[Pp q];exact Pq λe=>h b (.head _) e.symm
  ·rw[Pq q]
theorem pL {y:Str} {w:Value} {ns:List Str}:∀{ws:List Value} {m:Str->Option Value} {i:Nat},ns.Nodup->ns[i]? =some y->ws[i]? =some w->c y->B (ns.zip ws) m y=some w:=by
 induction ns with
 |nil=>exact λJ h J J=>nomatch h
 |cons n ns ih=>
  intro ws m i hn e1 e2 hc
  induction ws with
  |nil=>exact nomatch e2
  |cons u ws=>
   rw[List.zip_cons_cons,h1]
   induction i with
   |zero=>
    cases e1;cases e2
    rw[xf h0 h1 (y:=y) λb hb e=>(List.nodup_cons.mp hn).1 ((show b.1=y from e)▸(List.of_mem_zip (a:=b.1) (b:=b.2) hb).1),Pp hc]
    exact Pp rfl
   |succ i=>exact ih (List.nodup_cons.mp hn).2 e1 e2 hc
end
theorem AU {kd:Kd} {y:Str} {w:Value} {ns:List Str} {ws:List Value} {m:Str->Option Value} {i:Nat} (hn:ns.Nodup) (e1:ns[i]? =some y) (e2:ws[i]? =some w) (k:kd y=some .local):bindL kd (ns.zip ws) m y=some w:=
 pL (B:=bindL kd) (c:=λn=>kd n=some .local) (λJ=>rfl) (λJ J J J=>rfl) hn e1 e2 k
theorem AV {kd:Kd} {y:Str} {w:Value} {ns:List Str} {ws:List Value} {m:Str->Option Value} {i:Nat} (hn:ns.Nodup) (e1:ns[i]? =some y) (e2:ws[i]? =some w) (k:kd y≠some .local):bindC kd (ns.zip ws) m y=some w:=
 pL (B:=bindC kd) (c:=λn=>¬kd n=some .local) (λJ=>rfl) (λn v r m=>OY (bindC kd r) (ite_not ..).symm) hn e1 e2 k
theorem iO {y:Str} {c:Addr} {l:List (Str×NameKind)}:∀{n:Nat} {acc:List (Str×Addr)},(y,c)∈acc->(y,c)∈cellsFrom n l acc:=by
 induction l with
 |nil=>exact λh=>h
 |cons p r ih=>
  intro n acc h
  show _∈if p.2 ==.cell then cellsFrom (n+1) r ((p.1,n)::acc)else cellsFrom n r acc
  by_cases q:(p.2 == NameKind.cell)=true
  ·rw[Pp q];exact ih (.tail _ h)
  ·rw[Pq q];exact ih h
theorem iN {y:Str} {l:List (Str×NameKind)}:∀{n:Nat} {acc:List (Str×Addr)},(y,NameKind.cell)∈l->∃c,(y,c)∈cellsFrom n l acc:=by
 induction l with
 |nil=>exact λh=>nomatch h
 |cons p r ih=>
  intro n acc h
  show∃c,_∈if p.2 ==.cell then cellsFrom (n+1) r ((p.1,n)::acc)else cellsFrom n r acc
  by_cases q:(p.2 == NameKind.cell)=true
  ·rw[Pp q];exact(OW h).elim (λe=>⟨n,iO (e▸.head _)⟩) ih
  ·rw[Pq q];exact(OW h).elim (λe=>absurd (e▸rfl) q) ih
theorem DX {y:Str} {c:Addr} {l:List (Str×NameKind)}:∀{n:Nat} {acc:List (Str×Addr)},(y,c)∈cellsFrom n l acc->(y,NameKind.cell)∈l∨(y,c)∈acc:=by
 induction l with
 |nil=>exact .inr
 |cons p r ih=>
  intro n acc h
  have h:_∈if p.2 ==.cell then cellsFrom (n+1) r ((p.1,n)::acc)else cellsFrom n r acc:=h
  by_cases q:(p.2 == NameKind.cell)=true
  ·rw[Pp q]at h
   exact(ih h).elim (λh=>.inl (.tail _ h)) λh=>(OW h).elim (λe=>.inl (by rw[(Prod.mk.inj e).1,←beq_iff_eq.mp q];exact .head _)) .inr
  ·rw[Pq q]at h;exact(ih h).imp (.tail _) id
theorem Y7 {α:Type} {l:List (Str×α)} {y:Str} {c:α} (h:(y,c)∈l):∃c,l.lookup y=some c:=by
 induction l with
 |nil=>exact nomatch h
 |cons p r ih=>
  induction hb:y == p.1 with
  |true=>exact⟨p.2,by rw[show p=(p.1,p.2)from rfl,List.lookup_cons,hb]⟩
  |false=>exact(OW h).elim (λe=>by rw[←e,beq_self_eq_true]at hb;exact Bool.noConfusion hb) λh=>(ih h).imp λc e=>by rw[show p=(p.1,p.2)from rfl,List.lookup_cons,hb];exact e
theorem jV {l:List (Str×NameKind)} {n:Nat} {y:Str} (h:l.lookup y=some .cell):∃c,(cellsFrom n l []).lookup y=some c:=(iN (n:=n) (acc:=[]) (mem_of_lookup h)).elim λJ hc=>Y7 hc
inductive Lp (T:i7) (F:FuncData) (Pt:Addr):Prop
 |mk (t:Pt∈T.tabs) (q:T.zA Pt=F.qualname++(".<locals>.":Str)++("<lambda>":Str)) (c:Addr) (e:F.code=.ref c) (hd:CodeHd T.B c Pt)
structure Nz (T:i7) (a:Addr) (fd:Fd) (F:FuncData) (body:List PySem.Stmt) (dv:List Value):Prop where
 look:∃oc od osl,T.K.lookup a=some ⟨oc,od,.func F,osl⟩
 co:F.scope.isCoroutine=false
 gen:F.scope.isGenerator=false
 body:F.body=.stmts body
 kind:F.scope.kind=.function
 glob:F.globals=mainGlobals
 MS:F.closure=[]
 blt:F.builtins=builtinsNs
 code:codeIn T.K F.code F.qualname=true
 bind:∀(s:Shared) (args:List Value),T.K.In s.heap->args.length≤fd.params.length->fd.params.length - args.length≤fd.dD.length->BindsTo s F ⟨args,[]⟩ ((fd.params.map T.nm).zip (args++dv.drop (fd.dD.length - (fd.params.length - args.length))))
 dD:∀(U:List Addr) (bad:Addr->Prop) (h:Heap),T.B.StaysIn h->(∀a,bad a->T.B.get? a=none)->z1 T U bad h fd.dD dv
 nodup:fd.params.Nodup
 set:∀x,x∈fd.params->s6 T (λn=>F.scope.names.lookup n) x
 P0:∀x∈F.scope.names,x.2=.cell->F.scope.names.lookup x.1=some .cell
 lam:∀Pt,T.lam (λn=>F.scope.names.lookup n)=some Pt->Lp T F Pt
inductive Er (T:i7) (a:Addr) (fd:Fd) (Tb:Kd->List PySem.Stmt->Prop):Prop
 |mk (F:FuncData) (body:List PySem.Stmt) (dv:List Value) (h:Nz T a fd F body dv) (t:Tb (λn=>F.scope.names.lookup n) body)
noncomputable def Kv:Flow->Value
 |.ret v=>v
 |_=>.none
inductive LD (T:i7) (W:r9) (U:List Addr) (h:Heap) (own:List (Nat×Addr)) (fd:Fd) (ws:List Value) (x:Nat) (v:V):Prop
 |arg (i:Nat) (w:Value) (h1:fd.params[i]? =some x) (h2:ws[i]? =some w) (f:FV T W U h own x v w)
 |dD (i:Nat) (h1:fd.params[ws.length+i]? =some x) (h2:(fd.dD.drop (fd.dD.length - (fd.params.length - ws.length)))[i]? =some v)
section
variable {L:Addr}
noncomputable def r9.enter (W:r9) (L:Addr) (ds:List Addr):r9:=⟨L::W.l6,ds++W.own⟩
structure dw (h h':Heap) (L:Addr) (ds:List Addr):Prop where
 keep:∀a o,h.get? a=some o->h'.get? a=some o
 O4:h.get? L=none
 Ha:∃o,h'.get? L=some o
 wD:∀d,d∈ds->h.get? d=none
 HT:∀d,d∈ds->∃o,h'.get? d=some o
 apart:L∉ds
theorem dw.bad (x:dw h h' L ds) {a:Addr} (q:k9 T (W.enter L ds) U a):k9 T W U a∨h.get? a=none:=
 q.elim (λq=>.inl (.inl q)) λq=>q.elim (λq=>(OW q).elim (λq=>.inr (q▸x.O4)) λq=>.inl (.inr (.inl q))) λq=>q.elim (λq=>(Px q).elim (λq=>.inr (x.wD a q)) λq=>.inl (.inr (.inr (.inl q)))) λq=>.inl (.inr (.inr (.inr q)))
theorem d9.enter (c:d9 T W U Y h) (x:dw h h' L ds):d9 T (W.enter L ds) U Y h':=
 have nw:∀{a},h.get? a=none->a∉U∧a∉T.tabs:=λe=>⟨λq=>c.N3 e (.inl q),λq=>c.N3 e (.inr (.inr (.inr q)))⟩
 c.move (S:=λJ=>False) (λJ q=>x.bad q) (Off.of_keeps x.keep) (λJ q=>q.elim)
  ⟨λa ha=>(Px ha).elim (λq=>⟨λy=>y.elim (nw (x.wD a q)).1 λy=>y.elim (λy=>(OW y).elim (λy=>x.apart (y▸q)) λy=>c.N3 (x.wD a q) (.inr (.inl y))) (nw (x.wD a q)).2,x.HT a q⟩)
   λq=>⟨λy=>y.elim (λy=>(c.o5.own a q).nm (.inl y)) λy=>y.elim (λy=>(OW y).elim (λy=>(c.o5.own a q).ex.elim λo e=>d0 x.O4 (y▸e)) λy=>(c.o5.own a q).nm (.inr (.inl y))) λy=>(c.o5.own a q).nm (.inr (.inr y)),(c.o5.own a q).ex.elim λo e=>⟨o,x.keep a o e⟩⟩,
  λa ha=>(OW ha).elim (λq=>⟨q▸(nw x.O4).1,q▸(nw x.O4).2,q▸x.Ha⟩) λq=>⟨(c.o5.l6 a q).nr,(c.o5.l6 a q).nt,(c.o5.l6 a q).ex.elim λo e=>⟨o,x.keep a o e⟩⟩⟩
theorem In.enter (x:dw s.heap h' L ds):In W (W.enter L ds) s:=
 ⟨λa h=>.tail _ h,λa h=>OS _ h,λa h=>(OW h).elim (λq=>.inr (q▸x.O4)) .inl,λa h=>(Px h).elim (λq=>.inr (x.wD a q)) .inl⟩
theorem In.trans {W0 W W':r9} {s0 s:Shared} (x:In W0 W s0) (y:In W W' s) (k:∀a,s.heap.get? a=none->s0.heap.get? a=none):In W0 W' s0:=⟨λa q=>y.l6 a (x.l6 a q),λa q=>y.own a (x.own a q),λa q=>(y.gE a q).elim (x.gE a) λq=>.inr (k a q),λa q=>(y.C1 a q).elim (x.C1 a) λq=>.inr (k a q)⟩
theorem N7.deeper {A:Around} {env:Env} (r:N7 A (n+1)):N7 (A.deeper env) n:=⟨(M3 r.depth (by decide):A.depth+1+2 * n≤900),(M3 r.units (by decide):A.units+3+20 * n≤9000)⟩
theorem Ar.enter {A:Around} {env:Env} (a:Ar T W A 0 h) (rd:A.depth+1≤900) (ru:A.units+3≤9000) (x:dw h h' L ds) (hk:env.scope.kind=.function) (hf:env.frame=some L) (hB:T.B.get? L=none) (ht:I0 L h'):Ar T (W.enter L ds) (A.deeper env) 0 h' where
 handled:=a.handled
 depth:=rd
 units:=ru
 frames:=match a.frames with
  |⟨fs,h1,h2,h3⟩=>⟨env::fs,(OY (Option.map _) h1:A.frames.map _=_),ht.elim λo q=>⟨(by rw[hk];decide),⟨L,o,hf,hB,q.1,q.2⟩,Q3 (Off.of_keeps (S:=λJ=>False) x.keep) h2 λJ J J J q=>q.elim⟩,
   λe he K hK=>(OW he).elim (λq=>ON (hf.symm.trans (q▸hK))▸.head _) λq=>.tail _ (h3 e q K hK)⟩
theorem vI {xs:List Nat} (hj:∀x y,T.nm x=T.nm y->x=y) (h:xs.Nodup):(xs.map T.nm).Nodup:=by
 induction xs with
 |nil=>exact List.nodup_nil
 |cons x r ih=>exact List.nodup_cons.mpr ⟨λq=>match List.mem_map.mp q with|⟨y,hy,e⟩=>(List.nodup_cons.mp h).1 (hj _ _ e▸hy),ih (List.nodup_cons.mp h).2⟩
end
section
structure Es (T:i7) (A:Around) (env:Env) (W0:r9) (Z4:List Addr) (s0:Shared) (own:List (Nat×Addr)) (m:Fr) (U:List Addr) (Y:Hp) (W:r9) (s:Shared) (fd:Fd) (ws:List Value) (Rz:Result->Shared->Prop) (W1:r9) (s':Shared) (E:Value->Shared->Prop):Prop where
 fs:Fs (T:=T) ⟨A.deeper env,env,W0,Z4,s0,[],[]⟩ ⟨W1,own,U,s'⟩ m Y
 set:∀x,x∈fd.params->s6 T env.kindOf x
 held:∀(i x:Nat) (w:Value),fd.params[i]? =some x->ws[i]? =some w->n7 W1 env s'.heap (T.nm x) w
 exc:∀t c7,XV T W0 Z4 s0 (λe=>Rz (.error e)) t c7->XF (T:=T) ⟨A.deeper env,env,W0,Z4,s0,[],[]⟩ E t c7
 own:∀b,b∈W.own->b∈W1.own
 keep:∀b o,s.heap.get? b=some o->s'.heap.get? b=some o
 frame:env.frame=some env.locals
 cn:kc (T:=T) ⟨A.deeper env,env,W0,Z4,s0,[],[]⟩
 wQ:∀y c,env.cells.lookup y=some c->s.heap.get? c=none
set_option maxHeartbeats 4000000 in
theorem Q6 (tk:E5 T P) {fd:Fd} {a:Addr} {Tb:Kd->List PySem.Stmt->Prop} (EZ:Er T a fd Tb) {m:Fr} {W0 W:r9} {Z4 U:List Addr} {s0 s:Shared} {Y:Hp} {A:Around} {own:List (Nat×Addr)} {ws:List Value} {Rz:Result->Shared->Prop}
 (c:d9 T W U Y s.heap) (ar:Ar T W A 0 s.heap) (rd:A.depth+1≤900) (ru:A.units+3≤9000) (out0:i4 T W0 Z4 s0 Y U s) (inn0:In W0 W s0) (old0:∀a,a∈W0.own->∃o,s0.heap.get? a=some o) (fr0:LF T W0 A s0.heap)
 (ho1:∀x y a,(x,a)∈own->(y,a)∈own->x=y) (ho2:∀x a,(x,a)∈own->a∈W.own∧s0.heap.get? a=none) (b1:ws.length≤fd.params.length) (b2:fd.params.length - ws.length≤fd.dD.length) (hv:∀x v,d6 m x=some v->LD T W U s.heap own fd ws x v)
 (run:∀env W1 s' body E,Es T A env W0 Z4 s0 own m U Y W s fd ws Rz W1 s' E->Tb env.kindOf body->wpAny (model T.prog T.w) (A.deeper env) (execs body env) (λfl s''=>Rz (.ok (.ret (Kv fl))) s'') E s'):
 codeAny (model T.prog T.w) A (.call (.ref a) ⟨ws,[]⟩) Rz s:=by
 obtain⟨F,body,dv,hf,htr⟩:=EZ
 obtain⟨oc,od,osl,hlook⟩:=hf.look
 have X:=k7 tk c
 have hd900:A.depth < recursionLimit:=Pf (OV (Nat.le_add_right _ _) rd) (by decide)
 refine codeAny_call_function (fd:=F) (body:=body) hd900 (X _ _ hlook) rfl hf.co hf.gen hf.body (codeRec_of X hf.code) (hf.bind s ws X b1 b2 _ _ _ _ ?_)
 rw[hf.MS,hf.glob,hf.blt]
 generalize hbs:(fd.params.map T.nm).zip (ws++dv.drop (fd.dD.length - (fd.params.length - ws.length)))=bs
 have hin:∀x,x∈bs->F.scope.names.lookup x.1=some .local∨(F.scope.names.lookup x.1=some .cell∧((cellsFrom (s.heap.objs.size+1) F.scope.names []).lookup x.1).isSome=true):=by
  intro x hx
  rw[←hbs]at hx
  obtain⟨p,hp,e⟩:=List.mem_map.mp (List.of_mem_zip (a:=x.1) (b:=x.2) hx).1
  induction hf.set p hp with
  |loc _ q=>exact .inl (e▸q)
  |P0 _ q=>exact .inr ⟨e▸q,(jV (n:=s.heap.objs.size+1) (e▸q:F.scope.names.lookup x.1=some .cell)).elim λcc hcc=>hcc▸rfl⟩
 refine wpAny_newFunctionEnv_cells hf.kind hin λenv henv s' hic=>?_
 have hloc:env.locals=s.heap.objs.size:=henv▸rfl
 have hcells:env.cells=cellsFrom (s.heap.objs.size+1) F.scope.names []:=henv▸rfl
 have hscope:env.scope=F.scope:=henv▸rfl
 have hglb:env.globals=mainGlobals:=henv▸rfl
 have hblt':env.builtins=builtinsNs:=henv▸rfl
 have hframe:env.frame=some env.locals:=henv▸rfl
 have hqual:env.qual=F.qualname++(".<locals>.":Str):=henv▸rfl
 have hcode:env.code=F.code:=henv▸rfl
 clear henv
 have hkof:env.kindOf=λx=>F.scope.names.lookup x:=by funext x;show env.scope.names.lookup x=_;rw[hscope]
 have hset:∀x,x∈fd.params->s6 T env.kindOf x:=hkof▸hf.set
 obtain⟨h',tok,rfl,keep⟩:=hic.done
 have above:∀{a o},s.heap.get? a=some o->∀{b},env.locals≤b->a≠b:=λe J hb q=>absurd (Pu e) (Nat.not_lt.mpr (hloc▸q▸hb))
 have Lnew:s.heap.get? env.locals=none:=hloc▸none_at_size _
 have newAt:∀{b},env.locals≤b->s.heap.get? b=none:=λ{b} hb=>by
  induction q:s.heap.get? b with
  |none=>rfl
  |some o=>exact absurd rfl (above q hb)
 let ds:List Addr:=(env.cells.map (·.2)).filter λd=>(h'.get? d).isSome
 have dmem:∀d,d∈ds->env.locals < d∧∃o,h'.get? d=some o:=λd hd=>match List.mem_filter.mp hd with
  |⟨h1,h2⟩=>match List.mem_map.mp h1 with|⟨p,hp,e⟩=>⟨e▸hic.above p.1 p.2 hp,Option.isSome_iff_exists.mp h2⟩
 have ent:dw s.heap h' env.locals ds:=⟨keep,Lnew,(H6 hic.toInCall.ns).elim λo q=>⟨o,q.1⟩,λd hd=>newAt (Nat.le_of_lt (dmem d hd).1),λd hd=>(dmem d hd).2,λq=>Nat.lt_irrefl _ (dmem _ q).1⟩
 have hLB:T.B.get? env.locals=none:=by
  induction q:T.B.get? env.locals with
  |none=>rfl
  |some o=>exact d0 Lnew (c.base _ _ q)
 have cellOf:∀y,env.kindOf y=some .cell->∃ca,env.cells.lookup y=some ca∧ca∈ds∧h'.IsCell ca (bindC env.kindOf bs (λJ=>none) y):=λy hy=>by
  rw[hkof]at hy
  obtain⟨ca,hca⟩:=jV (n:=s.heap.objs.size+1) hy
  rw[←hcells]at hca
  have hi:h'.IsCell ca _:=hic.cell y ca hca
  exact⟨ca,hca,List.mem_filter.mpr ⟨List.mem_map.mpr ⟨(y,ca),mem_of_lookup hca,rfl⟩,(X2 hi).elim λo q=>q.1▸rfl⟩,hi⟩
 have sold:∀{b:Addr},s.heap.get? b=none->F.scope=F.scope∧s0.heap.get? b=none:=λe=>⟨rfl,out0.ext.since e⟩
 have nds:=vI tk.rR hf.nodup
 have ms:Ms U U (k9 T W U) (k9 T (W.enter env.locals ds) U) (λJ=>False) s.heap h':=c.T3 (λJ q=>ent.bad q) (Off.of_keeps keep) λJ q=>q.elim
 have heldAt:∀{x i:Nat} {w:Value},fd.params[i]? =some x->(ws++dv.drop (fd.dD.length - (fd.params.length - ws.length)))[i]? =some w->n7 (W.enter env.locals ds) env h' (T.nm x) w:=λ{x i w} h1 h2=>by
  have hp:=Pm h1
  have h1:(fd.params.map T.nm)[i]? =some (T.nm x):=by rw[Po,h1];rfl
  induction hset x hp with
  |loc _ q=>exact .loc _ q hic.toInCall.ns (hbs▸AU nds h1 h2 q)
  |P0 _ q=>
   obtain⟨ca,hca,hd,hi⟩:=cellOf _ q
   rw[←hbs,AV nds h1 h2 (q▸λq=>nomatch q)]at hi
   exact .P0 ca (.inl q) hca (OQ _ hd) hi
 have fr:G2 T (W.enter env.locals ds) U env own m h':={
  kind:=hscope▸hf.kind
  glob:=hglb
  blt:=hblt'
  Y0:=.head _
  loc:=λx v e=>match hv x v e with
   |.arg i w h1 _ _=>(match hf.set x (Pm h1)with|.loc g _=>g|.P0 g _=>g)
   |.dD i h1 _=>(match hf.set x (Pm h1)with|.loc g _=>g|.P0 g _=>g)
  ns:=⟨_,hic.toInCall.ns⟩
  var:=λx v e J=>match hv x v e with
   |.arg i w h1 h2 f=>⟨w,heldAt h1 ((Pn (List.getElem?_eq_some_iff.mp h2).1).trans h2),f.mv ms λJ J=>keep _⟩
   |.dD i h1 h2=>z1.at (z1.drop _ (hf.dD U (k9 T W U) s.heap c.base c.fresh)) h2 λw hw g q=>⟨w,heldAt h1 (by rw[List.getElem?_append_right (Nat.le_add_right _ _),Nat.add_sub_cancel_left];exact hw),.pl v w g (q.ms ms)⟩
  has:=λy q=>(cellOf _ q).elim λca z=>⟨ca,_,z.1,OQ _ z.2.1,z.2.2⟩
  own:=λx a e=>OS _ (ho2 x a e).1
  code:=λPt q=>match hf.lam Pt (hkof▸q)with|⟨q1,q2,c',q3,q4⟩=>⟨c',q1,q2.trans (hqual▸rfl),hcode.trans q3,q4⟩}
 have ft:I0 env.locals h':=H6 hic.toInCall.ns
 have hk:env.scope.kind=.function:=hscope▸hf.kind
 have cx:Cx T (W.enter env.locals ds) 0 (A.deeper env) env own m U Y {s with heap:=h',toks:=tok}:=⟨c.enter ent,fr,ar.enter rd ru ent hk hframe hLB ft⟩
 have st:St (T:=T) ⟨A.deeper env,env,W0,Z4,s0,[],[]⟩ (W.enter env.locals ds) own:={
  v5:=inn0.trans (In.enter ent) λJ=>out0.ext.since
  inj:=ho1
  aR:=λx b q=>(ho2 x b q).2
  O4:=out0.ext.since Lnew
  cD:=λx b y ca q hca=>(c.o5.own b (ho2 x b q).1).ex.elim λo e=>above e (Nat.le_of_lt (hic.above y ca (mem_of_lookup hca)))
  aw:=λy ca hc=>OQ _ (List.mem_filter.mpr ⟨List.mem_map.mpr ⟨(y,ca),mem_of_lookup hc,rfl⟩,(X2 (hic.cell y ca hc:h'.IsCell ca _)).elim λo q=>q.1▸rfl⟩)
  old:=old0}
 refine⟨match tk.tI with|⟨mc,hn,hm⟩=>⟨mc,(A2 c.base hn).keeps keep,hm⟩,codeAny_func (run env (W.enter env.locals ds) _ body _ ⟨⟨cx,st,i4.under inn0 out0 (i4.keeps c keep),⟨λJ J J q=>(nomatch q),λJ J q=>(nomatch q)⟩⟩,hset,λi x w h1 h2=>
  heldAt h1 ((Pn (List.getElem?_eq_some_iff.mp h2).1).trans h2),λt c7 xv=>?_,λb hb=>OS _ hb,keep,hframe,⟨λx ca hca=>out0.ext.since (newAt (Nat.le_of_lt (hic.above x ca (mem_of_lookup hca)))),λx y ca h1 h2=>name_of_addr hic.apart (mem_of_lookup h1) (mem_of_lookup h2)⟩,λy ca hca=>newAt (Nat.le_of_lt (hic.above y ca (mem_of_lookup hca)))⟩ (hkof▸htr))⟩
 intro e s1 OF W1 inn1 hL1 ft1 out1 exc1
 exact match fr0 with
  |⟨fs,hA1,hA2,hA3⟩=>js (F:=⟨A.deeper env,env,W0,Z4,s0,[],[]⟩) (A:=A.deeper env) inn1 (OY (Option.map _) hA1:A.frames.map _=_) hA2 hA3 hL1 hk hframe ft1 hLB out1 exc1 xv
end
noncomputable def cy (e:Ex):Bool:=(R3 e).isSome
noncomputable def B5 (e:Ex):Bool:=(eM e).isSome
noncomputable def P8 (e:Ex):Bool:=(y5 e).isSome
noncomputable def eL:X->Option (X×List Nat×mK×List X×Option X)
 |.comp p a b c d e=>bif p then none else some (a,b,c,d,e)
 |_=>none
theorem sG {e:X} {q:X×List Nat×mK×List X×Option X} (h:eL e=some q):e=.comp false q.1 q.2.1 q.2.2.1 q.2.2.2.1 q.2.2.2.2:=by
 cases e with
 |comp p=>induction p with
  |true=>exact ns h
  |false=>cases h;rfl
 |_=>exact ns h
noncomputable def ff (kd:Kd) (ts vs:List Ex):Option (Option (List Str)):=
 bif !(ts.length == 2 || ts.length == 3)|| vs.length != ts.length then some none else
 bif vs.any (λ|.Starred ..=>true|_=>false)then some none else
 bif (ts.filterMap λ
  |.Name id pos=>if kd id == some .local&&pos.line ==(ts.head?.map (·.pos.line)).getD 0 then some id else none
  |_=>none).length != ts.length ||(ts.filterMap λ
  |.Name id pos=>if kd id == some .local&&pos.line ==(ts.head?.map (·.pos.line)).getD 0 then some id else none
  |_=>none).eraseDups.length !=(ts.filterMap λ
  |.Name id pos=>if kd id == some .local&&pos.line ==(ts.head?.map (·.pos.line)).getD 0 then some id else none
  |_=>none).length then some none else
 bif vs.all (foldedForSure 8)then some none else
 bif vs.all (constantsAlone 8)then none else some (some (ts.filterMap λ
  |.Name id pos=>if kd id == some .local&&pos.line ==(ts.head?.map (·.pos.line)).getD 0 then some id else none
  |_=>none))
theorem sY {α β:Type} {c:Bool} {x y z:α} {a o:β} {p:Option β} (h:(bif c then some a else p)=some o) (k1:a=o->x=z) (k2:p=some o->y=z):(if c=true then x else y)=z:=by
 induction c with
 |true=>exact k1 (ON h)
 |false=>exact k2 h
theorem sX {env:Env} (hb:env.blockKind=.function) {ts vs:List Ex} {k k':Nat} {q r:Pos} {o:Option (List Str)} (h:ff env.kindOf ts vs=some o):swappedStores [.Tuple ts k q] (.Tuple vs k' r) env=pure o:=by
 unfold swappedStores
 dsimp only
 rw[hb,bne_self_eq_false,Bool.or_false]
 refine sY h (λe=>e▸rfl) λh=>sY h (λe=>e▸rfl) λh=>sY h (λe=>e▸rfl) λh=>sY h (λe=>e▸rfl) λh=>?_
 induction c:vs.all (constantsAlone 8)with
 |true=>rw[c]at h;exact nomatch h
 |false=>rw[c]at h;cases h;rfl
noncomputable def J7:PySem.Stmt->Option (Ex×Ex×Pos):=I3 PySem.Stmt.ctorIdx 5 λe h=>PySem.Stmt.Assign.elim e h λk a p=>(y0 k).map λx=>(x,a,p)
noncomputable def bG:PySem.Stmt->Option (Ex×Pos):=I3 PySem.Stmt.ctorIdx 24 λe h=>PySem.Stmt.Expr.elim e h λa p=>some (a,p)
noncomputable def FF:PySem.Stmt->Option (Ex×List PySem.Stmt×List PySem.Stmt×Pos):=I3 PySem.Stmt.ctorIdx 12 λe h=>PySem.Stmt.If.elim e h λt b a p=>some (t,b,a,p)
noncomputable def pS:PySem.Stmt->Option (Ex×List PySem.Stmt×Pos):=I3 PySem.Stmt.ctorIdx 11 λe h=>PySem.Stmt.While.elim e h λt b k p=>rk k (some (t,b,p))
noncomputable def Bf:PySem.Stmt->Option (Ex×Ex×List PySem.Stmt×Pos):=I3 PySem.Stmt.ctorIdx 9 λe h=>PySem.Stmt.For.elim e h λt i b k p=>rk k (some (t,i,b,p))
noncomputable def Bb:PySem.Stmt->Option (Ex×Pos):=I3 PySem.Stmt.ctorIdx 3 λe h=>PySem.Stmt.Return.elim e h λk p=>k.map λx=>(x,p)
noncomputable def pY:PySem.Stmt->Option (Ex×Pos):=I3 PySem.Stmt.ctorIdx 16 λe h=>PySem.Stmt.Raise.elim e h λk c p=>ot c (k.map λx=>(x,p))
noncomputable def mi:PySem.Stmt->Option (Pos):=I3 PySem.Stmt.ctorIdx 25 λe h=>PySem.Stmt.Pass.elim e h λp=>some p
section
variable {e:PySem.Stmt}
theorem F9 {q:Ex×Ex×Pos} (h:J7 e=some q):e=.Assign [q.1] q.2.1 q.2.2:=o2 h λi z=>PySem.Stmt.Assign.elim (motive_2:=λe=>∀i,PySem.Stmt.Assign.elim (motive_2:=λJ=>Option (Ex×Ex×Pos)) e i (λk a p=>(y0 k).map λx=>(x,a,p))=some q->e=.Assign [q.1] q.2.1 q.2.2) e i (λk a p J z=>d8 z λx y z=>by rw[B3 y,←z]) i z
theorem R4 {q:Ex×Pos} (h:bG e=some q):e=.Expr q.1 q.2:=o2 h λi z=>PySem.Stmt.Expr.elim (motive_2:=λe=>∀i,PySem.Stmt.Expr.elim (motive_2:=λJ=>Option (Ex×Pos)) e i (λa p=>some (a,p))=some q->e=.Expr q.1 q.2) e i (λa p J z=>(ON z:(a,p)=q)▸rfl) i z
theorem Bd {q:Ex×List PySem.Stmt×List PySem.Stmt×Pos} (h:FF e=some q):e=.If q.1 q.2.1 q.2.2.1 q.2.2.2:=o2 h λi z=>PySem.Stmt.If.elim (motive_2:=λe=>∀i,PySem.Stmt.If.elim (motive_2:=λJ=>Option (Ex×List PySem.Stmt×List PySem.Stmt×Pos)) e i (λt b a p=>some (t,b,a,p))=some q->e=.If q.1 q.2.1 q.2.2.1 q.2.2.2) e i (λt b a p J z=>(ON z:(t,b,a,p)=q)▸rfl) i z
theorem pR {q:Ex×List PySem.Stmt×Pos} (h:pS e=some q):e=.While q.1 q.2.1 [] q.2.2:=o2 h λi z=>PySem.Stmt.While.elim (motive_2:=λe=>∀i,PySem.Stmt.While.elim (motive_2:=λJ=>Option (Ex×List PySem.Stmt×Pos)) e i (λt b k p=>rk k (some (t,b,p)))=some q->e=.While q.1 q.2.1 [] q.2.2) e i (λt b k p J z=>kI z λy z=>by subst y;exact(ON z:(t,b,p)=q)▸rfl) i z
theorem xq {q:Ex×Ex×List PySem.Stmt×Pos} (h:Bf e=some q):e=.For q.1 q.2.1 q.2.2.1 [] q.2.2.2:=o2 h λi z=>PySem.Stmt.For.elim (motive_2:=λe=>∀i,PySem.Stmt.For.elim (motive_2:=λJ=>Option (Ex×Ex×List PySem.Stmt×Pos)) e i (λt i b k p=>rk k (some (t,i,b,p)))=some q->e=.For q.1 q.2.1 q.2.2.1 [] q.2.2.2) e i (λt i b k p J z=>kI z λy z=>by subst y;exact(ON z:(t,i,b,p)=q)▸rfl) i z
theorem xl {q:Ex×Pos} (h:Bb e=some q):e=.Return (some q.1) q.2:=o2 h λi z=>PySem.Stmt.Return.elim (motive_2:=λe=>∀i,PySem.Stmt.Return.elim (motive_2:=λJ=>Option (Ex×Pos)) e i (λk p=>k.map λx=>(x,p))=some q->e=.Return (some q.1) q.2) e i (λk p J z=>d8 z λx y z=>by rw[y,←z]) i z
theorem pX {q:Ex×Pos} (h:pY e=some q):e=.Raise (some q.1) none q.2:=o2 h λi z=>PySem.Stmt.Raise.elim (motive_2:=λe=>∀i,PySem.Stmt.Raise.elim (motive_2:=λJ=>Option (Ex×Pos)) e i (λk c p=>ot c (k.map λx=>(x,p)))=some q->e=.Raise (some q.1) none q.2) e i (λk c p J z=>oq z λy z=>d8 z λx w z=>by rw[y,w,←z]) i z
theorem sD {q:Pos} (h:mi e=some q):e=.Pass q:=o2 h λi z=>PySem.Stmt.Pass.elim (motive_2:=λe=>∀i,PySem.Stmt.Pass.elim (motive_2:=λJ=>Option (Pos)) e i (λp=>some p)=some q->e=.Pass q) e i (λp J z=>(ON z:(p)=q)▸rfl) i z
end
noncomputable def JE:Mine.T->Option Nat
 |.OK x=>some x
 |.B4 x=>some x
 |_=>none
noncomputable def zc:List Mine.T->Option (List Nat)
 | []=>some []
 |t::ts=>(JE t).bind λx=>(zc ts).map (x:: ·)
section
variable (T:i7) (n:Nat) (kd:Kd)
noncomputable def cH (x:Nat) (id:Str):Bool:=decide (T.nm x=id)&&((d6 T.glob x).isNone&&(decide (kd id=some .local)|| decide (kd id=some .cell)))
noncomputable def AK (t:Mine.T) (e:Ex):Bool:=match t with
 |.OK x=>f6 (y5 e) λq=>cH T kd x q.1
 |.B4 x=>f6 (y5 e) λq=>cH T kd x q.1
 |.attr o a=>f6 (X7 e) λq=>decide (T.nm a=q.2.1)&&(r4 T n kd o q.1&&T.SF.any λs=>decide (s=T.nm a))
 |.item o i=>f6 (gZ e) λq=>r4 T n kd o q.1&&r4 T n kd i q.2.1
 |.Y6 x i=>f6 (gZ e) λq=>r4 T n kd (.OK x) q.1&&r4 T n kd i q.2.1
noncomputable def Fu (t:Mine.T) (e:X) (t' e':Ex):Bool:=f6 (y5 t') λa=>f6 (eM e') λc=>f6 (JE t) λx=>f6 (eL e) λJ=>
 gY T kd x a.1&&(r4 T n kd e e'&&((a.2.line == c.2.2.2.line)&&!(c.2.2.1.names.any λ(n,k)=>n == a.1&&(k ==.local || k ==.cell))))
noncomputable def MT (t:Mine.T) (e:X) (t' e':Ex):Bool:=bif B5 e'&&P8 t' then Fu T n kd t e t' e' else AK T n kd t t'&&(r4 T n kd e e'&&!cy t')
noncomputable def AL (x:Nat) (a:String) (e:Ex) (f:List Ex->Bool):Bool:=f6 (H8 e) λq=>f6 (X7 q.1) λr=>decide (r.2.1=a)&&(r4 T n kd (.OK x) r.1&&((r.2.2.endLine == q.2.2.line)&&f q.2.1))
noncomputable def xB (e:Ex):Bool:=f6 (hY e) λq=>Hg (.int 0) q.1
end
noncomputable def iM (T:i7) (kd:Kd):Nat->S->PySem.Stmt->Bool
 |0,_,_=>false
 |n+1,s,st=>match s with
  |.assign t e=>f6 (J7 st) λq=>MT T n kd t e q.1 q.2.1
  |.N0 ts es=>f6 (J7 st) λq=>f6 (R3 q.1) λa=>f6 (R3 q.2.1) λb=>all2 (r4 T n kd) es b.1&&(decide (ff kd a.1 b.1=some none)&&all2 (AK T n kd) ts a.1)
  |.F7 ts es=>f6 (J7 st) λq=>f6 (R3 q.1) λa=>f6 (R3 q.2.1) λb=>f6 (zc ts) λxs=>all2 (r4 T n kd) es b.1&&(decide (ff kd a.1 b.1=some (some (xs.map T.nm)))&&xs.all λx=>cH T kd x (T.nm x))
  |.H4 ts e=>f6 (J7 st) λq=>f6 (R3 q.1) λa=>all2 (AK T n kd) ts a.1&&(r4 T n kd e q.2.1&&(!cy q.2.1&&!B5 q.2.1))
  |.expr e=>f6 (bG st) λq=>r4 T n kd e q.1&&!B5 q.1
  |.ite t b f=>f6 (FF st) λq=>r4 T n kd t q.1&&(all2 (iM T kd n) b q.2.1&&all2 (iM T kd n) f q.2.2.1)
  |.y6 t b=>f6 (pS st) λq=>r4 T n kd t q.1&&all2 (iM T kd n) b q.2.1
  |.F2 xs src it b=>f6 (Bf st) λq=>so (r4 T n kd) kd src it q.2.1&&(Ic T kd xs q.1&&all2 (iM T kd n) b q.2.2.1)
  |.ret e=>f6 (Bb st) λq=>r4 T n kd e q.1
  |.raise e=>f6 (pY st) λc=>f6 (H8 c.1) λq=>f6 (y5 q.1) λr=>f6 (y0 q.2.1) λa=>decide (r.1=T.S1)&&(decide (kd T.S1=some .globalImplicit)&&r4 T n kd e a)
  |.o8=>true
  |.F1 x e=>f6 (bG st) λq=>AL T n kd x "append" q.1 λes=>f6 (y0 es) λa=>r4 T n kd e a
  |.K4 x e=>f6 (bG st) λq=>AL T n kd x "insert" q.1 λes=>f6 (two1 es) λa=>xB a.1&&r4 T n kd e a.2
  |.fT y x=>f6 (J7 st) λq=>AL T n kd x "pop" q.2.1 λes=>f6 (y0 es) λa=>xB a&&(f6 (y5 q.1) λb=>cH T kd y b.1&&!Nat.beq x y)
  |.J0 x e=>f6 (bG st) λq=>AL T n kd x "update" q.1 λes=>f6 (y0 es) λa=>r4 T n kd e a
  |.pass=>(mi st).isSome
def I8 (T:i7) (kd:Kd) (s:S) (st:PySem.Stmt):Prop:=∃n,iM T kd (n+1) s st=true
inductive sI (T:i7) (kd:Kd):List S->List PySem.Stmt->Prop
 |nil:sI T kd [] []
 |cons (s:S) (s':PySem.Stmt) (ss:List S) (ss':List PySem.Stmt):I8 T kd s s'->sI T kd ss ss'->sI T kd (s::ss) (s'::ss')
inductive mG (T:i7) (kd:Kd):List Mine.T->List Ex->Prop
 |nil:mG T kd [] []
 |cons (t:Mine.T) (t':Ex) (ts:List Mine.T) (ts':List Ex):qf T kd t t'->mG T kd ts ts'->mG T kd (t::ts) (t'::ts')
variable {G:PySem.Stmt->Prop} {st:PySem.Stmt}
section
variable {s:S}
theorem I8.of (h:iM T kd n s st=true):I8 T kd s st:=by
 induction n with
 |zero=>exact Bool.noConfusion h
 |succ n=>exact⟨n,h⟩
theorem sI.of {ss:List S}:∀{st:List PySem.Stmt},all2 (iM T kd n) ss st=true->sI T kd ss st:=by
 induction ss with
 |nil=>exact λ{st} h=>by induction st with
  |nil=>exact .nil
  |cons=>exact Bool.noConfusion h
 |cons s ss ih=>exact λ{st} h=>by induction st with
  |nil=>exact Bool.noConfusion h
  |cons st r=>exact a7 h λh1 h2=>.cons _ _ _ _ (.of h1) (ih h2)
theorem fm {x:Nat} {id:Str} {G:Str->Prop} (h:cH T kd x id=true) (k:s6 T kd x->G (T.nm x)):G id:=
 a7 h λh1 h=>a7 h λh2 h3=>by
  rw[←OP h1]at h3⊢
  exact k ((Bool.or_eq_true_iff.mp h3).elim (λh=>.loc (Option.isNone_iff_eq_none.mp h2) (OP h)) λh=>.P0 (Option.isNone_iff_eq_none.mp h2) (OP h))
theorem qf.of {t:Mine.T} {e:Ex} (h:AK T n kd t e=true):qf T kd t e:=by
 induction t with
 |OK x=>exact b7 h λq e h=>q9 e▸fm (G:=λs=>qf T kd (.OK x) (.Name s q.2)) h λs=>.OK x _ s
 |B4 x=>exact b7 h λq e h=>q9 e▸fm (G:=λs=>qf T kd (.B4 x) (.Name s q.2)) h λs=>.B4 x _ s
 |attr o a=>exact b7 h λq e h=>a7 h λh1 h=>a7 h λh2 h3=>(by
  rw[L6 e,←OP h1]
  exact match List.any_eq_true.mp h3 with|⟨s,hs,es⟩=>.attr o a _ _ (.of h2) (OP es▸hs))
 |item o i=>exact b7 h λq e h=>a7 h λh1 h2=>X5 e▸.item o i _ _ _ (.of h1) (.of h2)
 |Y6 x i=>exact b7 h λq e h=>a7 h λh1 h2=>X5 e▸.Y6 x i _ _ _ (.of h1) (.of h2)
theorem mG.of {ts:List Mine.T}:∀{es:List Ex},all2 (AK T n kd) ts es=true->mG T kd ts es:=by
 induction ts with
 |nil=>exact λ{st} h=>by induction st with
  |nil=>exact .nil
  |cons=>exact Bool.noConfusion h
 |cons s ss ih=>exact λ{st} h=>by induction st with
  |nil=>exact Bool.noConfusion h
  |cons st r=>exact a7 h λh1 h2=>.cons _ _ _ _ (.of h1) (ih h2)
theorem not_true {b:Bool} (h:(!b)=true):b=false:=(Bool.not_eq_true' _).mp h
@[elab_as_elim] theorem I8.jY {t:Mine.T} {e:X} (h:I8 T kd (.assign t e) st) (k:∀t' e' p,qf T kd t t'->Tr T kd e e'->(B5 e'&&P8 t')=false->cy t'=false->G (.Assign [t'] e' p))
 (k':∀x q elt gens sc r p c,eL e=some c->JE t=some x->kd (T.nm x)=some .local->d6 T.glob x=none->Tr T kd e (.ListComp elt gens sc r)->(q.line == r.line)=true->(sc.names.any λ(n,k)=>n == T.nm x&&(k ==.local || k ==.cell))=false->G (.Assign [.Name (T.nm x) q] (.ListComp elt gens sc r) p)):G st:=
 h.elim λn h=>b7 h λq e h=>by
  rw[F9 e]
  have h:(bif B5 q.2.1&&P8 q.1 then Fu T n kd t _ q.1 q.2.1 else _)=true:=h
  induction c:B5 q.2.1&&P8 q.1 with
  |false=>rw[c]at h;exact a7 h λh1 h=>a7 h λh2 h3=>k _ _ _ (.of h1) (.of h2) c (not_true h3)
  |true=>
   rw[c]at h
   refine b7 h λa ea h=>b7 h λcc ec h=>b7 h λx ex h=>b7 h λd ed h=>a7 h λh1 h=>a7 h λh2 h=>a7 h λh3 h4=>?_
   rw[q9 ea]
   rw[hZ ec]at h2⊢
   rw[←OP (a7 h1 λa J=>a)]at h4⊢
   exact ku (G:=λs=>True->G _) h1 (λk1 k2 J=>k' x _ _ _ _ _ _ d ed ex k1 k2 (.of h2) h3 (not_true h4)) trivial
end
section
@[elab_as_elim] theorem I8.sA {ts:List Mine.T} {es:List X} (h:I8 T kd (.N0 ts es) st) (k:∀ts' es' i q j r p,mG T kd ts ts'->Z2 T kd es es'->ff kd ts' es'=some none->G (.Assign [.Tuple ts' i q] (.Tuple es' j r) p)):G st:=
 h.elim λn h=>b7 h λq e h=>b7 h λa ea h=>b7 h λb eb h=>a7 h λh1 h=>a7 h λh2 h3=>by
  rw[F9 e,G9 ea,G9 eb]
  exact k _ _ _ _ _ _ _ (.of h3) (J9 h1) (OP h2)
@[elab_as_elim] theorem I8.sz {ts:List Mine.T} {es:List X} (h:I8 T kd (.F7 ts es) st) (k:∀ts' es' xs i q j r p,zc ts=some xs->Z2 T kd es es'->ff kd ts' es'=some (some (xs.map T.nm))->(∀x,x∈xs->s6 T kd x)->G (.Assign [.Tuple ts' i q] (.Tuple es' j r) p)):G st:=
 h.elim λn h=>b7 h λq e h=>b7 h λa ea h=>b7 h λb eb h=>b7 h λxs ex h=>a7 h λh1 h=>a7 h λh2 h3=>by
  rw[F9 e,G9 ea,G9 eb]
  exact k _ _ xs _ _ _ _ _ ex (J9 h1) (OP h2) (λx hx=>fm (G:=λJ=>s6 T kd x) (List.all_eq_true.mp h3 x hx) id)
@[elab_as_elim] theorem I8.eW {ts:List Mine.T} {x:X} (h:I8 T kd (.H4 ts x) st) (k:∀ts' e' i q p,mG T kd ts ts'->Tr T kd x e'->cy e'=false->B5 e'=false->G (.Assign [.Tuple ts' i q] e' p)):G st:=
 h.elim λn h=>b7 h λq e h=>b7 h λa ea h=>a7 h λh1 h=>a7 h λh2 h=>a7 h λh3 h4=>by
  rw[F9 e,G9 ea]
  exact k _ _ _ _ _ (.of h1) (.of h2) (not_true h3) (not_true h4)
@[elab_as_elim] theorem I8.DF {x:X} (h:I8 T kd (.expr x) st) (k:∀e' p,Tr T kd x e'->B5 e'=false->G (.Expr e' p)):G st:=h.elim λn h=>b7 h λq e h=>a7 h λh1 h2=>R4 e▸k _ _ (.of h1) (not_true h2)
@[elab_as_elim] theorem I8.gp {t:X} {b f:List S} (h:I8 T kd (.ite t b f) st) (k:∀t' b' f' p,Tr T kd t t'->sI T kd b b'->sI T kd f f'->G (.If t' b' f' p)):G st:=h.elim λn h=>b7 h λq e h=>a7 h λh1 h=>a7 h λh2 h3=>Bd e▸k _ _ _ _ (.of h1) (.of h2) (.of h3)
@[elab_as_elim] theorem I8.xD {t:X} {b:List S} (h:I8 T kd (.y6 t b) st) (k:∀t' b' p,Tr T kd t t'->sI T kd b b'->G (.While t' b' [] p)):G st:=h.elim λn h=>b7 h λq e h=>a7 h λh1 h2=>pR e▸k _ _ _ (.of h1) (.of h2)
@[elab_as_elim] theorem I8.HE {xs:List Nat} {src:mK} {it:List X} {b:List S} (h:I8 T kd (.F2 xs src it b) st) (k:∀tgt it' b' p,bJ T kd src it it'->qe T kd xs tgt->sI T kd b b'->G (.For tgt it' b' [] p)):G st:=
 h.elim λn h=>b7 h λq e h=>a7 h λh1 h=>a7 h λh2 h3=>xq e▸k _ _ _ _ (nk h1) (xR h2) (.of h3)
@[elab_as_elim] theorem I8.Gq {x:X} (h:I8 T kd (.ret x) st) (k:∀e' p,Tr T kd x e'->G (.Return (some e') p)):G st:=h.elim λn h=>b7 h λq e h=>xl e▸k _ _ (.of h)
@[elab_as_elim] theorem I8.yG {x:X} (h:I8 T kd (.raise x) st) (k:∀e' q r p,kd T.S1=some .globalImplicit->Tr T kd x e'->G (.Raise (some (.Call (.Name T.S1 q) [e'] [] r)) none p)):G st:=
 h.elim λn h=>b7 h λc ec h=>b7 h λq e h=>b7 h λr er h=>b7 h λa ea h=>a7 h λh1 h=>a7 h λh2 h3=>by
  rw[pX ec,z9 e,q9 er,B3 ea,OP h1]
  exact k _ _ _ _ (OP h2) (.of h3)
theorem eH {n x:Nat} {a:String} {f:List Ex->Bool} {e:Ex} {G:Ex->Prop} (h:AL T n kd x a e f=true) (k:∀o q1 es q2,Tr T kd (.OK x) o->(q1.endLine == q2.line)=true->f es=true->G (.Call (.Attribute o a q1) es [] q2)):G e:=
 b7 h λq e h=>b7 h λr er h=>a7 h λh1 h=>a7 h λh2 h=>a7 h λh3 h4=>by
  rw[z9 e,L6 er,OP h1]
  exact k _ _ _ _ (.of h2) h3 h4
@[elab_as_elim] theorem I8.ry {x:Nat} {e:X} (h:I8 T kd (.F1 x e) st) (k:∀o e' q1 q2 p,Tr T kd (.OK x) o->Tr T kd e e'->(q1.endLine == q2.line)=true->G (.Expr (.Call (.Attribute o "append" q1) [e'] [] q2) p)):G st:=
 h.elim λn h=>b7 h λq eq h=>R4 eq▸eH (G:=λe=>G (.Expr e q.2)) h λo q1 es q2 h1 h2 h=>b7 h λa ea h=>B3 ea▸k _ _ _ _ _ h1 (.of h) h2
@[elab_as_elim] theorem I8.rq {x:Nat} {e:X} (h:I8 T kd (.J0 x e) st) (k:∀o e' q1 q2 p,Tr T kd (.OK x) o->Tr T kd e e'->(q1.endLine == q2.line)=true->G (.Expr (.Call (.Attribute o "update" q1) [e'] [] q2) p)):G st:=
 h.elim λn h=>b7 h λq eq h=>R4 eq▸eH (G:=λe=>G (.Expr e q.2)) h λo q1 es q2 h1 h2 h=>b7 h λa ea h=>B3 ea▸k _ _ _ _ _ h1 (.of h) h2
theorem sQ {z:Ex} {G:Ex->Prop} (h:xB z=true) (k:∀i p,G (.Constant (.int 0) i p)):G z:=b7 h λq e h=>by
 rw[du e]
 induction hq:q.1 with
 |int b=>rw[hq]at h;exact OP h▸k _ _
 |_=>rw[hq]at h;exact Bool.noConfusion h
@[elab_as_elim] theorem I8.rt {x:Nat} {e:X} (h:I8 T kd (.K4 x e) st) (k:∀o e' i q0 q1 q2 p,Tr T kd (.OK x) o->Tr T kd e e'->(q1.endLine == q2.line)=true->G (.Expr (.Call (.Attribute o "insert" q1) [.Constant (.int 0) i q0,e'] [] q2) p)):G st:=
 h.elim λn h=>b7 h λq eq h=>R4 eq▸eH (G:=λe=>G (.Expr e q.2)) h λo q1 es q2 h1 h2 h=>b7 h λa ea h=>a7 h λh3 h4=>two1_eq ea▸sQ (G:=λz=>G (.Expr (.Call (.Attribute o "insert" q1) [z,a.2] [] q2) q.2)) h3 λi p=>k _ _ _ _ _ _ _ h1 (.of h4) h2
@[elab_as_elim] theorem I8.CR {x y:Nat} (h:I8 T kd (.fT y x) st) (k:∀o i q0 q1 q2 q4 p,Tr T kd (.OK x) o->s6 T kd y->x≠y->(q1.endLine == q2.line)=true->G (.Assign [.Name (T.nm y) q4] (.Call (.Attribute o "pop" q1) [.Constant (.int 0) i q0] [] q2) p)):G st:=
 h.elim λn h=>b7 h λq eq h=>F9 eq▸eH (G:=λe=>G (.Assign [q.1] e q.2.2)) h λo q1 es q2 h1 h2 h=>b7 h λa ea h=>a7 h λh3 h4=>b7 h4 λb eb h=>a7 h λh5 h6=>by
  rw[B3 ea,q9 eb]
  exact sQ (G:=λz=>G (.Assign [.Name b.1 b.2] (.Call (.Attribute o "pop" q1) [z] [] q2) q.2.2)) h3 λi p=>fm (G:=λs=>G (.Assign [.Name s b.2] (.Call (.Attribute o "pop" q1) [.Constant (.int 0) i p] [] q2) q.2.2)) h5 λhs=>k _ _ _ _ _ _ _ h1 hs (λe=>by rw[e,Nat.beq_refl]at h6;exact Bool.noConfusion h6) h2
end
def KF {T:i7} (F:Fx T) (Q:Flow->Shared->Prop) (p:Fl×Fr) (c7:Hp):Prop:=match p.1 with
 |.ret v=>KV T F.W0 F.Z4 F.s0 (λw=>Q (.ret w)) v c7
 |.next=>∀z,Fs F z p.2 c7->Q .next z.s
structure Rm {T:i7} (F:Fx T) (n:Nat):Prop where
 r:N7 F.A n
 c:kc F
theorem Rm.hold {T:i7} {F:Fx T} {n:Nat} {H:List (Addr×Obj×Bool)} {Hv:List (V×Value)} (r:Rm F n):Rm (F.hold H Hv) n:=⟨r.r,r.c.wQ,r.c.DT⟩
def V0 (T:i7) (n:Nat) (run:Fr->List S->Hp->R (Fl×Fr)):Prop:=
 ∀{F:Fx T} {z:Zt} {m:Fr} {Y:Hp} {ss:List S} {ss':List PySem.Stmt} {Q:Flow->Shared->Prop} {E:Value->Shared->Prop},
  Rm F n->Fs F z m Y->sI T F.env.kindOf ss ss'->(run m ss Y).c4 (KF F Q) (XF F E)->wpAny (model T.prog T.w) F.A (execs ss' F.env) Q E z.s
section
variable {Q:Flow->Shared->Prop}
theorem iW {kd:Kd} {t:Mine.T} {t' e':Ex} {e:X} (tt:qf T kd t t') (te:Tr T kd e e') (hc:(B5 e'&&P8 t')=false) (line:Nat) (env:Env):swapsWithSole [t'] e' line env=pure false:=by
 revert hc
 refine Tr.all (G:=λe'=>(B5 e'&&P8 t')=false->swapsWithSole [t'] e' line env=pure false) te (λJ J J=>rfl) (λJ J J J=>rfl) (λJ J J J J=>rfl) (λJ J J J=>rfl) (λJ J J J=>rfl) (λJ J J J J=>rfl) (λJ J J J J=>rfl) (λJ J J J=>rfl) (λJ J J J=>rfl) (λJ J J J=>rfl) (λJ J J=>rfl) (λJ J J J=>rfl) (λJ J J J=>rfl) λJ J J J hc=>?_
 induction tt with
 |OK=>exact Bool.noConfusion hc
 |B4=>exact Bool.noConfusion hc
 |_=>rfl
theorem cV {kd:Kd} {t:Mine.T} {t':Ex} (tt:qf T kd t t') (e':Ex) (env:Env):swappedStores [t'] e' env=pure none:=by induction tt<;>rfl
theorem bw {kd:Kd} {t:Mine.T} {t':Ex} (tt:qf T kd t t') (rest:List Ex) (env:Env):assignEach (t'::rest) env=(false,assign t' env)::assignEach rest env:=by induction tt<;>rfl
theorem lY (tk:E5 T P) (hr:g7 T n r.ev) (rm:Rm F n) (f:Fs F z m Y) {t:Mine.T} {e:X} {t' e':Ex} {p:Pos} (tt:qf T F.env.kindOf t t') (te:Tr T F.env.kindOf e e') (hc:(B5 e'&&P8 t')=false)
 (h:(g8 P r m (.assign t e) Y).c4 (KF F Q) (XF F E)):wpAny (model T.prog T.w) F.A (exec (.Assign [t'] e' p) F.env) Q E z.s:=by
 rw[arm_exec_Assign]
 refine OL (Pk ?_)
 rw[iW tt te hc]
 refine OL (OM ?_)
 rw[Pq Bool.false_ne_true]
 refine OL (f.eval hr rm.r te h λv c9 w c5 c8 o hv hf h=>?_)
 rw[cV tt]
 refine OL (OM (f.give o hv hf λW' f gv=>?_))
 rw[bw tt]
 show wpAny _ F.A (do assign t' F.env w;pure .next) Q E c5
 exact OL (iX (z:=⟨W',z.own,c8,c5⟩) tk rm.c hr rm.r f tt gv (R.d5.mp h) λm' c7 z' h f=>OM (h z' f))
theorem wA (hr:g7 T n r.ev) (rm:Rm F n) (f:Fs F z m Y) {e:X} (t:I8 T F.env.kindOf (.expr e) st) (h:(g8 P r m (.expr e) Y).c4 (KF F Q) (XF F E)):wpAny (model T.prog T.w) F.A (exec st F.env) Q E z.s:=
 t.DF λe' p te hc=>wpAny_Expr_any (f.eval hr rm.r te h λv c9 w c5 c8 o J J h=>h _ (f.step o)) (by unfold interactive;rw[f.cx.fr.kind];rfl)
  (Tr.all (G:=λe'=>B5 e'=false->swapsWith e' none p.line F.env=pure false) te (λJ J J=>rfl) (λJ J J J=>rfl) (λJ J J J J=>rfl) (λJ J J J=>rfl) (λJ J J J=>rfl) (λJ J J J J=>rfl) (λJ J J J J=>rfl) (λJ J J J=>rfl) (λJ J J J=>rfl) (λJ J J J=>rfl) (λJ J J=>rfl) (λJ J J J=>rfl) (λJ J J J=>rfl) (λJ J J J hc=>Bool.noConfusion hc) hc)
theorem zK (ht:D8 T n r.tr) (hx:V0 T n r.Y9) (rm:Rm F n) (f:Fs F z m Y) {t:X} {b e:List S} (tt:I8 T F.env.kindOf (.ite t b e) st) (h:(g8 P r m (.ite t b e) Y).c4 (KF F Q) (XF F E)):wpAny (model T.prog T.w) F.A (exec st F.env) Q E z.s:=
 tt.gp λJ J J J tt tb te=>wpAny_If (f.test ht rm.r tt h λc c9 c5 c8 o h=>by
  induction c with
  |true=>exact hx rm (f.step o) tb h
  |false=>exact hx rm (f.step o) te h)
theorem DQ {p:Fl×Fr} {k:Fr->Hp->R (Fl×Fr)} {X':Txt->Hp->Prop} (h:(gT p k Y).c4 (KF F Q) X') {Q':Flow->Shared->Prop} (hr:∀w s,Q (.ret w) s->Q' (.ret w) s) (hn:∀z,(k p.2 Y).c4 (KF F Q) X'->Fs F z p.2 Y->Q' .next z.s):KF F Q' p Y:=by
 obtain⟨fl,m⟩:=p
 induction fl with
 |ret v=>exact λw s' d7 o hv hf=>hr w s' ((show KV T F.W0 F.Z4 F.s0 (λw=>Q (.ret w)) v Y from h) w s' d7 o hv hf)
 |next=>exact λz f=>hn z h f
inductive LoopAt (F:Fx T) (Q:Flow->Shared->Prop) (E:Value->Shared->Prop) (run:Fr->Hp->R (Fl×Fr)) (s:Shared):Prop
 |mk (z:Zt) (m:Fr) (Y:Hp) (e:z.s=s) (f:Fs F z m Y) (h:(run m Y).c4 (KF F Q) (XF F E))
end
section
variable {Q:Flow->Shared->Prop}
theorem dM {α β:Type} {x:R α} {f:α->Hp->R β} {K:β->Hp->Prop} {X' X'':Txt->Hp->Prop} (h:(x.z6.bind f).c4 K X'):x.c4 (λa Y=>(f a Y).c4 K X') X'':=R.c4.mono (R.J5 (R.d5.mp h)) (λJ J q=>q) λJ J q=>q.elim
theorem qm (ht:D8 T n r.tr) (hx:V0 T n r.Y9) (rm:Rm F n) (f:Fs F z m Y) {t:X} {b:List S} (tt:I8 T F.env.kindOf (.y6 t b) st) (h:(g8 P r m (.y6 t b) Y).c4 (KF F Q) (XF F E)):wpAny (model T.prog T.w) F.A (exec st F.env) Q E z.s:=
 tt.xD λJ J J tt tb=>wpAny_While (codeAny_whileLoop (λk s'=>LoopAt F Q E (G3 r t b k) s') (λk s' i=>by
  obtain⟨z,m,Y,e,f,h⟩:=i
  subst e
  induction k with
  |zero=>exact h.elim
  |succ k=>
   refine ht (f.mY rm.r) tt (R.c4.mono (dM (X'':=λJ J=>False) h) (λc c9 h c5 c8 o=>?_) λJ J x=>x.elim)
   induction c with
   |true=>exact hx rm (f.step o) tb (R.c4.mono (dM (X'':=λJ J=>False) h) (λp n9 h=>DQ h (λJ J q=>q) λz h f=>⟨k,Nat.lt_succ_self k,z,p.2,n9,rfl,f,h⟩) λJ J x=>x.elim)
   |false=>exact wpAny_execs_nil (h _ (f.step o))) 20 ⟨z,m,Y,rfl,f,h⟩)
theorem gb {u v:V} (e:tK u=some v):v=u∧made u=true:=oy (G:=λv=>v=u∧made u=true) e λh=>⟨rfl,h⟩
theorem yR {e:X} {v:V} {G:Prop} (h:ownOf e m=some v) (k:∀x,e=.OK x->d6 m x=some v->made v=true->G):G:=
 a0 h λx ex h=>a0 h λu eu h=>k x (uF ex) ((gb h).1▸eu) ((gb h).1▸(gb h).2)
theorem Fs.Dv (f:Fs F z m Y) {x:Nat} {v:V} {w:Value} {Q:Value->Shared->Prop} (fv:FV T z.W z.U z.s.heap z.own x v w) (hm:made v=true) (k:KV T F.W0 F.Z4 F.s0 Q v Y):Q w z.s:=by
 have v5:=f.st.v5
 have i2:In ⟨F.W0.l6,z.W.own⟩ z.W F.s0:=⟨v5.l6,λJ q=>q,v5.gE,λJ q=>.inl q⟩
 have nb:∀{a},(x,a)∈z.own->¬k9 T F.W0 z.U a:=λ{a} hm q=>(f.cx.rel.o5.own a (f.cx.fr.own x a hm)).nm (q.imp id λq=>q.imp (v5.l6 a) λq=>q.elim (λq=>(f.st.old a q).elim λo e=>d0 (f.st.aR x a hm) e) id)
 have Y1:∀a,(x,a)∈z.own->M0 T z.W z.U z.s.heap a v->C5 T F.W0 z.U z.s.heap v (.ref a)->Q (.ref a) z.s:=λa o q hv=>k _ _ _ f.out hv λJ=>
  ⟨a,⟨F.W0.l6,z.W.own⟩,f.st.aR x a o,⟨rfl,v5.own,v5.C1⟩,f.cx.fr.own x a o,f.cx.rel.shrink i2,q.mv (i2.ms _) λJ e=>e⟩
 induction fv with
 |ml xs ws a o l q=>exact Y1 a o (.l xs ws l q) (.mk _ _ (.jo _ xs ws a rfl rfl l (nb o) (q.ms (v5.ms _))))
 |md kvs a o d=>exact match d.at (v5.ms _) (λJ e=>e)with|⟨kws,hd,s,e,q⟩=>Y1 a o (.d kvs d) (.mk _ _ (.mX _ kvs a kws rfl rfl hd s (nb o) e q))
 |mo=>exact Bool.noConfusion hm
 |pl _ _ g=>exact Bool.noConfusion ((P2 g).symm.trans hm)
theorem yC (hr:g7 T n r.ev) (rm:Rm F n) (f:Fs F z m Y) {e:X} (t:I8 T F.env.kindOf (.ret e) st) (h:(g8 P r m (.ret e) Y).c4 (KF F Q) (XF F E)):wpAny (model T.prog T.w) F.A (exec st F.env) Q E z.s:=
 t.Gq λe' p te=>wpAny_Return_some (cg (K:=λz=>R.c4 z _ _) h (λv ev h=>yR ev λx ex e2 hm=>by
  rw[ex]at te
  exact aU (f.mY rm.r) te e2 λw J fv=>f.Dv fv hm h) λJ h=>f.eval hr rm.r te h λv c9 w c5 c8 o hv hf h=>by
  induction hl:dA v with
  |true=>rw[hl]at h;exact h.elim
  |false=>rw[hl]at h;exact f.kv o hv hf h)
structure IJ (F:Fx T) (z:Zt) (vs:List V) (ws:List Value) (as:List Addr):Prop where
 r:J4 T z.W z.U z.s.heap vs ws as
 l:∀a,a∈as->l8 F z a
 nd:as.Nodup
 g:vs.all oQ=true
theorem rQ {v:V} (h:oQ v=true) (m:made v=false):solid v=true:=by cases v<;>first|rfl|exact Bool.noConfusion h|exact Bool.noConfusion m
theorem C5.oQ {W:r9} {U:List Addr} {h:Heap} {v:V} {w:Value} (x:C5 T W U h v w) (g:solid v=true):eP T W U h v w:=x.vs g
theorem W9 {xs:List V} {us:List Value} {W:r9} {U:List Addr} {h:Heap} (q:E4 T W U h xs us):∀v w,(v,w)∈xs.zip us->solid v=true∧eP T W U h v w:=by
 induction xs generalizing us with
 |nil=>exact λJ J k=>nomatch k
 |cons x xs ih=>cases q with
  |cons _ u _ us g a q=>exact λv w k=>(OW k).elim (λe=>by cases e;exact⟨g,a⟩) (ih q v w)
theorem eS {xs:List V} {us:List Value} {bad:Addr->Prop} {U:List Addr} {h:Heap} (e:us.length=xs.length) (q:∀v w,(v,w)∈xs.zip us->solid v=true∧VS T U bad h v w):z1 T U bad h xs us:=by
 induction xs generalizing us with
 |nil=>induction us with
  |nil=>exact .nil
  |cons=>exact nomatch e
 |cons x xs ih=>induction us with
  |nil=>exact nomatch e
  |cons u us=>exact .cons _ _ _ _ (q x u (.head _)).1 (q x u (.head _)).2 (ih (Nat.succ.inj e) λv w k=>q v w (.tail _ k))
theorem l8.hold {a:Addr} {H:List (Addr×Obj×Bool)} {Hv:List (V×Value)} (l:l8 F z a) (n:∀p,p∈H->p.1≠a):l8 (F.hold H Hv) z a:=⟨l.C9,l.OK,l.cell,l.new,l.out,λo b q=>(Px q).elim (λq=>n _ q rfl) (l.held o b)⟩
theorem sM.loose {z':Zt} {a:Addr} {o:Obj} (l:l8 F z a) (x:sM F z' a o true):l8 F z' a:=⟨x.own rfl,x.nn,x.nc,l.new,l.out,l.held⟩
inductive uJ (F:Fx T) (z:Zt) (m:Fr) (Y:Hp) (vs:List V) (ws:List Value) (as:List Addr):Prop
 |mk (H:List (Addr×Obj×Bool)) (Hv:List (V×Value)) (f:Fs (F.hold H Hv) z m Y) (ha:∀p,p∈H->p.1∈as) (back:∀z' m' c7,Fs (F.hold H Hv) z' m' c7->IJ F z' vs ws as)
theorem Fs.N8 {H H':List (Addr×Obj×Bool)} {Hv Hv':List (V×Value)} (f:Fs (F.hold H Hv) z m Y) (h1:∀p,p∈H'->p∈H) (h2:∀p,p∈Hv'->p∈Hv):Fs (F.hold H' Hv') z m Y:=
 ⟨f.cx,⟨f.st.v5,f.st.inj,f.st.aR,f.st.O4,f.st.cD,f.st.aw,f.st.old⟩,f.out,⟨λa o b q=>have x:=f.hd.objs a o b ((Px q).elim (λq=>OQ _ (h1 _ q)) (OS _));⟨x.at_,x.nm,x.nn,x.nc,x.own,x.nb⟩,
  λv w q=>have x:=f.hd.vals v w ((Px q).elim (λq=>OQ _ (h2 _ q)) (OS _));⟨x.g,x.r⟩⟩⟩
theorem oM (f:Fs F z m Y) {vs:List V} {ws:List Value} {as:List Addr} (q:J4 T z.W z.U z.s.heap vs ws as):(∀a,a∈as->l8 F z a)->as.Nodup->vs.all oQ=true->uJ F z m Y vs ws as:=by
 induction q with
 |nil=>exact λJ J J=>⟨[],[],f.holds (λJ J J q=>nomatch q) (λJ J q=>nomatch q),(λJ q=>nomatch q),λJ J J J=>⟨.nil,(λJ q=>nomatch q),List.nodup_nil,rfl⟩⟩
 |plain v w vs ws as hm hv q ih=>
  exact λhl hn hg=>a7 hg λg1 g2=>match ih hl hn g2 with
   |⟨H,Hv,f',ha,back⟩=>
    have g:=rQ g1 hm
    have f2:Fs (F.hold H ((v,w)::Hv)) z m Y:=⟨f'.cx,⟨f.st.v5,f.st.inj,f.st.aR,f.st.O4,f.st.cD,f.st.aw,f.st.old⟩,f'.out,⟨λa o b q=>have x:=f'.hd.objs a o b q;⟨x.at_,x.nm,x.nn,x.nc,x.own,x.nb⟩,λv' w' q=>(OW q).elim (λe=>by cases e;exact⟨g,hv.vs g⟩) λq=>have x:=f'.hd.vals v' w' q;⟨x.g,x.r⟩⟩⟩
    ⟨H,(v,w)::Hv,f2,ha,λz' m' c7 k=>have x:=k.hd.vals v w (.head _);have b:=back z' m' c7 (k.N8 (λJ q=>q) λJ q=>.tail _ q);⟨.plain v w vs ws as hm (.mk _ _ x.r) b.r,b.l,b.nd,Bool.and_eq_true_iff.mpr ⟨g1,b.g⟩⟩⟩
 |own v a vs ws as ha' q' q ih=>
  exact λhl hn hg=>a7 hg λg1 g2=>match ih (λb k=>hl b (.tail _ k)) (List.nodup_cons.mp hn).2 g2 with
   |⟨H,Hv,f',ha,back⟩=>by
    have na:=(List.nodup_cons.mp hn).1
    have l:=hl a (.head _)
    induction q' with
    |d=>exact Bool.noConfusion g1
    |l xs us l1 r1=>
     obtain⟨i,e⟩:=id l1
     have f2:Fs (F.hold ((a,CY us i,true)::H) (xs.zip us++Hv)) z m Y:=⟨f'.cx,⟨f.st.v5,f.st.inj,f.st.aR,f.st.O4,f.st.cD,f.st.aw,f.st.old⟩,f'.out,⟨λb o bb q=>(OW q).elim (λe2=>by cases e2;exact⟨e,(f.cx.rel.o5.own a l.C9).nm,l.OK,l.cell,λJ=>l.C9,λq=>nomatch q⟩) λq=>have x:=f'.hd.objs b o bb q;⟨x.at_,x.nm,x.nn,x.nc,x.own,x.nb⟩,
      λv' w' q=>(Px q).elim (λq=>(Px q).elim (λq=>have k:=W9 r1 v' w' q;⟨k.1,k.2⟩) λq=>have x:=f'.hd.vals v' w' (OQ _ q);⟨x.g,x.r⟩) λq=>have x:=f'.hd.vals v' w' (OS _ q);⟨x.g,x.r⟩⟩⟩
     refine⟨_,_,f2,λp hp=>(OW hp).elim (λe=>e▸.head _) λhp=>.tail _ (ha p hp),λz' m' c7 k=>?_⟩
     have x:=k.hd.objs a _ true (.head _)
     have b:=back z' m' c7 (k.N8 (λJ q=>.tail _ q) λJ q=>OS _ q)
     have la:l8 F z' a:=⟨x.own rfl,x.nn,x.nc,l.new,l.out,l.held⟩
     exact⟨.own _ a vs ws as (x.own rfl) (.l xs us ⟨i,x.at_⟩ (eS r1.length λv w q=>have y:=k.hd.vals v w (OQ _ (OQ _ q));⟨y.g,y.r⟩)) b.r,λc hc=>(OW hc).elim (λe=>e▸la) (b.l c),List.nodup_cons.mpr ⟨na,b.nd⟩,Bool.and_eq_true_iff.mpr ⟨g1,b.g⟩⟩
def Ek (F:Fx T) (P:Pg) (r:Ev) (E:Value->Shared->Prop) (t:Mine.T) (act:Value->Sem Unit):Prop:=
 ∀{H:List (Addr×Obj×Bool)} {Hv:List (V×Value)} {z:Zt} {m:Fr} {Y:Hp} {v:V} {w:Value} {K:Fr->Hp->Prop} {Q:Unit->Shared->Prop},Fs (F.hold H Hv) z m Y->Gv (F.hold H Hv) z v w->(store P r t v m Y).c4 K (XF F E)->(∀m' c7 z',K m' c7->Fs (F.hold H Hv) z' m' c7->Q () z'.s)->wpAny (model T.prog T.w) F.A (act w) Q E z.s
inductive Stores (F:Fx T) (P:Pg) (r:Ev) (E:Value->Shared->Prop):List Mine.T->List (Value->Sem Unit)->Prop
 |nil:Stores F P r E [] []
 |cons (t:Mine.T) (act:Value->Sem Unit) (ts:List Mine.T) (acts:List (Value->Sem Unit)):Ek F P r E t act->Stores F P r E ts acts->Stores F P r E (t::ts) (act::acts)
theorem bW {ts:List Mine.T} {acts:List (Value->Sem Unit)} (tt:Stores F P r E ts acts) {Q:Unit->Shared->Prop} {K:Fr->Hp->Prop}:∀{z:Zt} {m:Fr} {Y:Hp} {vs:List V} {ws:List Value} {as:List Addr},Fs F z m Y->IJ F z vs ws as->(storeAll P r ts vs m Y).c4 K (XF F E)->(∀m' c7 z',K m' c7->Fs F z' m' c7->Q () z'.s)->
 wpAny (model T.prog T.w) F.A (assignInOrder acts ws) Q E z.s:=by
 induction tt with
 |nil=>intro z m Y vs ws as f g h k;induction g.r with
  |nil=>exact OM (k _ _ z h f)
  |_=>exact h.elim
 |cons t act ts acts hs _ ih=>
  intro z m Y vs ws as f g h k
  obtain⟨r',l,nd,gg⟩:=g
  have go:∀{v:V} {w:Value} {vs:List V} {ws:List Value} {as:List Addr},uJ F z m Y vs ws as->(∀H Hv,(∀p,p∈H->p.1∈as)->Gv (F.hold H Hv) z v w)->((store P r t v m Y).bind λm Y=>storeAll P r ts vs m Y).c4 K (XF F E)->wpAny (model T.prog T.w) F.A (assignInOrder (act::acts) (w::ws)) Q E z.s:=λ{v w vs ws as} ah gv h=>match ah with
   |⟨H,Hv,f',ha,back⟩=>OL (Pd (hs f' (gv H Hv ha) (R.d5.mp h) λm₂ n9 Jc h B9=>ih B9.y7 (back _ _ _ B9) h k))
  induction r' with
  |nil=>exact h.elim
  |plain v w vs ws as hm hv q=>exact a7 gg λg1 g2=>go (oM f q l nd g2) (λJ J J=>.plain w hm hv) h
  |own v a vs ws as ha q' q=>exact a7 gg λg1 g2=>go (oM f q (λb k=>l b (.tail _ k)) (List.nodup_cons.mp nd).2 g2) (λH Hv hh=>.own a ((l a (.head _)).hold λp hp e=>(List.nodup_cons.mp nd).1 (e▸hh p hp)) q') h
end
section
variable {Q:Flow->Shared->Prop}
theorem J4.C9 {W:r9} {U:List Addr} {h:Heap} {vs:List V} {ws:List Value} {as:List Addr} (q:J4 T W U h vs ws as):∀a,a∈as->a∈W.own:=by
 induction q with
 |nil=>exact λJ q=>nomatch q
 |plain _ _ _ _ _ _ _ _ ih=>exact ih
 |own v a vs ws as ha _ _ ih=>exact λb hb=>(OW hb).elim (λe=>e▸ha) (ih b)
theorem J4.len {W:r9} {U:List Addr} {h:Heap} {vs:List V} {ws:List Value} {as:List Addr} (q:J4 T W U h vs ws as):ws.length=vs.length:=by
 induction q with
 |nil=>rfl
 |plain _ _ _ _ _ _ _ _ ih=>exact OY (· +1) ih
 |own _ _ _ _ _ _ _ _ ih=>exact OY (· +1) ih
theorem J4.step {W:r9} {U d7:List Addr} {s s':Shared} {Y c7:Hp} (c:d9 T W U Y s.heap) (o:i4 T W U s c7 d7 s') {vs:List V} {ws:List Value} {as:List Addr} (q:J4 T W U s.heap vs ws as):J4 T W d7 s'.heap vs ws as:=by
 induction q with
 |nil=>exact .nil
 |plain v w vs ws as hm hv _ ih=>exact .plain v w vs ws as hm (o.ext.vr hv) ih
 |own v a vs ws as ha q _ ih=>exact .own v a vs ws as ha (q.mv o.ext.ms (o.ext.ownAt c.o5 ha)) ih
theorem J4.rev {W:r9} {U:List Addr} {h:Heap} {vs:List V} {ws:List Value} {as:List Addr} (q:J4 T W U h vs ws as):∀{vs':List V} {ws':List Value} {as':List Addr},J4 T W U h vs' ws' as'->J4 T W U h (vs.reverseAux vs') (ws.reverseAux ws') (as.reverseAux as'):=by
 induction q with
 |nil=>exact λq=>q
 |plain v w vs ws as hm hv _ ih=>exact λq=>ih (.plain v w _ _ _ hm hv q)
 |own v a vs ws as ha q' _ ih=>exact λq=>ih (.own v a _ _ _ ha q' q)
theorem IJ.rev {vs:List V} {ws:List Value} {as:List Addr} (g:IJ F z vs ws as):IJ F z vs.reverse ws.reverse as.reverse:=
 ⟨g.r.rev .nil,λa ha=>g.l a (List.mem_reverse.mp ha),(List.reverse_perm _).nodup_iff.mpr g.nd,(List.all_reverse ..).trans g.g⟩
theorem F5 {b:Addr} {h h':Heap} (x:Heap.ExtBut b h h') (hb:h.get? b=none):∀a o,h.get? a=some o->h'.get? a=some o:=λa o e=>x a o (λq=>d0 (q▸hb) e) e
theorem l8.to {a:Addr} {U:List Addr} {s:Shared} (l:l8 F z a):l8 F (z.to U s) a:=⟨l.C9,l.OK,l.cell,l.new,l.out,l.held⟩
theorem eY (hr:g7 T n r.ev) (rm:Rm F n) (f:Fs F z m Y) {ts:List Mine.T} {es:List X} {es':List Ex} {kk i:Nat} {p:Pos} {Q:Value->Shared->Prop} {K:Fl×Fr->Hp->Prop} {g:List V->Hp->R (Fl×Fr)} (t:Z2 T F.env.kindOf es es')
 (h:((m7 r m es Y).bind λvs Y=>(b8 i (gd (HI ts vs) ()) Y).bind λJ Y=>g vs Y).c4 K (XF F E))
 (k:∀vs c7 z' a ws as,Fs F z' m c7->mZ z'.s.heap a ws->IJ F z' vs ws as->ws.length=ts.length->(g vs c7).c4 K (XF F E)->Q (.ref a) z'.s):wpAny (model T.prog T.w) F.A (PySem.eval (.Tuple es' kk p) F.env) Q E z.s:=
 wpAny_Tuple_spliced (jM hr t (f.mY rm.r) (R.c4.mono (R.d5.mp h) (λvs c9 h ws c5 c8 o x=>a9 h λJ e h=>i9 e λe J=>a7 e λe1 e=>a7 e λe2 e3=>match x with
  |⟨W',as,g,hr',q,nd,nw⟩=>by
   have z8:=f.grow o g hr'
   have i8:i4 T W' c8 c5 c9 c8 {c5 with heap:=c5.heap.push {cls:=.type "tuple",data:=.seq ws.toArray}}:=i4.keeps (t:=c5.toks) hr' (g9 _ _)
   exact⟨by rw[q.len];exact u7 e3,k vs c9 _ _ ws as (z8.step i8) ⟨_,OU _ rfl⟩ ⟨q.step hr' i8,λa ha=>(f.loose (nw a ha) (q.C9 a ha)).to,nd,e1⟩ (q.len.trans (Pc e2)) h⟩) λJ J x=>f.xv x))
theorem U9 (tk:E5 T P) (hr:g7 T n r.ev) (rm:Rm F n) {ts:List Mine.T} {ts':List Ex} (t:mG T F.env.kindOf ts ts'):Stores F P r E ts ((assignEach ts' F.env).map (·.2))∧(assignEach ts' F.env).length=ts.length∧(assignEach ts' F.env).findIdx? (·.1)=none:=by
 induction t with
 |nil=>exact⟨.nil,rfl,rfl⟩
 |cons t t' ts ts' tt _ ih=>
  rw[bw tt]
  exact⟨.cons _ _ _ _ (λ{H Hv _ _ _ _ _ _ _} f gv h k=>iX (F:=F.hold H Hv) tk rm.hold.c hr rm.r f tt gv h k) ih.1,OY (· +1) ih.2.1,by rw[List.findIdx?_cons,ih.2.2];rfl⟩
theorem gD (f:Fs F z m Y):F.env.blockKind=.function:=by
 unfold Env.blockKind
 rw[f.cx.fr.kind];rfl
theorem me (tk:E5 T P) (hr:g7 T n r.ev) (rm:Rm F n) (f:Fs F z m Y) {ts:List Mine.T} {es:List X} (t:I8 T F.env.kindOf (.N0 ts es) st) (h:(g8 P r m (.N0 ts es) Y).c4 (KF F Q) (XF F E)):wpAny (model T.prog T.w) F.A (exec st F.env) Q E z.s:=
 t.sA λts' es' i q j u p tt te hw=>Assign_Tuple (eY hr rm f te h λvs c7 z' a ws as f ht g hl h=>match U9 (E:=E) tk hr rm tt with
  |⟨ss,e1,e2⟩=>wpAny_assign_Tuple f.cx.ar.handled ht.tup (e1.trans (hl.symm.trans (Ph ..).symm)) e2 λh' he=>by
   have i8:i4 T z'.W z'.U z'.s c7 z'.U {z'.s with heap:=h'}:=i4.keeps (t:=z'.s.toks) f.cx.rel (F5 he (none_at_size _))
   exact bW ss (f.step i8) ⟨g.r.step f.cx.rel i8,λa ha=>(g.l a ha).to,g.nd,g.g⟩ (R.d5.mp h) λm' c7 z' h f=>h z' f) rfl (sX (gD f) hw)
theorem rj (tk:E5 T P) (cn:kc F) {ts:List Mine.T}:∀{xs:List Nat},zc ts=some xs->(∀x,x∈xs->s6 T F.env.kindOf x)->∀{ts':List Mine.T} {acts:List (Value->Sem Unit)},Stores F P r E ts' acts->Stores F P r E (ts.reverseAux ts') ((xs.map λx=>bindName F.env (T.nm x)).reverseAux acts):=by
 induction ts with
 |nil=>exact λe J J J s=>by cases e;exact s
 |cons t ts ih=>
  intro xs e hs ts' acts s
  refine a0 e λx ex e=>d8 e λys ey e=>?_
  subst e
  refine ih ey (λy hy=>hs y (.tail _ hy)) (.cons t (bindName F.env (T.nm x)) _ _ ?_ s)
  intro H Hv z m Y v w K Q f gv h k
  have hx:=hs x (.head _)
  induction t with
  |OK y=>cases ex;exact wpAny_bindName (fh (F:=F.hold H Hv) tk f (s6.La (F:=F.hold H Hv) hx ⟨cn.wQ,cn.DT⟩) gv h k)
  |B4 y=>cases ex;exact wpAny_bindName (bV (F:=F.hold H Hv) tk f (s6.La (F:=F.hold H Hv) hx ⟨cn.wQ,cn.DT⟩) gv h k)
  |_=>exact ns ex
theorem zb {ts:List Mine.T}:∀{xs:List Nat},zc ts=some xs->xs.length=ts.length:=by
 induction ts with
 |nil=>exact λe=>by cases e;rfl
 |cons t ts ih=>exact λe=>a0 e λx ex e=>d8 e λys ey e=>e▸OY (· +1) (ih ey)
theorem ma (tk:E5 T P) (hr:g7 T n r.ev) (rm:Rm F n) (f:Fs F z m Y) {ts:List Mine.T} {es:List X} (t:I8 T F.env.kindOf (.F7 ts es) st) (h:(g8 P r m (.F7 ts es) Y).c4 (KF F Q) (XF F E)):wpAny (model T.prog T.w) F.A (exec st F.env) Q E z.s:=
 t.sz λts' es' xs i q j u p hx te hw hs=>Assign_Tuple_swapped (eY hr rm f te h λvs c7 z' a ws as f ht g hl h=>by
  have hlen:(xs.map T.nm).length=ws.toArray.size:=by
   rw[OZ,Ph,hl]
   exact zb hx
  rw[hlen]
  refine wpAny_unpackItems_tuple f.cx.ar.handled ht.tup λh' he=>?_
  have i8:i4 T z'.W z'.U z'.s c7 z'.U {z'.s with heap:=h'}:=i4.keeps (t:=z'.s.toks) f.cx.rel (F5 he (none_at_size _))
  rw[show((xs.map T.nm).reverse.map λn=>bindName F.env n)=(xs.map λx=>bindName F.env (T.nm x)).reverse by rw[←List.map_reverse,List.map_map,List.map_reverse];rfl]
  exact bW (rj tk rm.c hx hs .nil) (f.step i8) (IJ.rev ⟨g.r.step f.cx.rel i8,λa ha=>(g.l a ha).to,g.nd,g.g⟩) (R.d5.mp h) λm' c7 z' h f=>h z' f) rfl (sX (gD f) hw)
theorem z1.Cv {W:r9} {U:List Addr} {h:Heap} {xs:List V} {ws:List Value} (q:E4 T W U h xs ws):J4 T W U h xs ws []:=by
 induction xs generalizing ws with
 |nil=>cases q;exact .nil
 |cons x xs ih=>cases q with|cons _ w _ _ g a q=>exact .plain x w xs _ [] (P2 g) (.mk _ _ a) (ih q)
theorem z1.oQ {bad:Addr->Prop} {U:List Addr} {h:Heap} {xs:List V} {ws:List Value} (q:z1 T U bad h xs ws):xs.all Mine.oQ=true:=by
 induction xs generalizing ws with
 |nil=>rfl
 |cons x xs ih=>cases q with|cons _ w _ _ g a q=>exact Bool.and_eq_true_iff.mpr ⟨by
  cases x with
  |cu=>cases a with
   |G4 _ _ a=>cases a
   |jo _ _ _ _ e=>exact ns e
   |mX _ _ _ _ e=>exact ns e
  |snap|Z9|E2=>exact Bool.noConfusion g
  |_=>rfl,ih q⟩
theorem VR.Ap {bad f7:Addr->Prop} {U:List Addr} {h:Heap} {v:V} {w:Value} {xs:List V} {G:Value->Prop} (hv:VR T U bad f7 h v w) (e:wC v=some xs) (k1:∀a ws,mZ h a ws->¬bad a->z1 T U bad h xs ws->G (.ref a)) (k2:∀a ws,R6 h a ws->¬bad a->z1 T U bad h xs ws->G (.ref a)):G w:=by
 cases v with
 |tup=>cases e;exact hv.E7 k1
 |lst=>cases e;exact hv.z0 rfl λa ws l n q=>k2 a ws l (n rfl) q
 |g6=>cases e;exact hv.z0 rfl λa ws l n q=>k2 a ws l (n rfl) q
 |_=>exact ns e
theorem iT {W:r9} {U:List Addr} {s:Shared} {A:Around} {env:Env} {ts':List Ex} {i:Nat} {q:Pos} {v:V} {w:Value} {xs:List V} {Q:Unit->Shared->Prop} (hh:A.handled=none) (hv:C5 T W U s.heap v w) (ex:wC v=some xs) (e1:(assignEach ts' env).length=xs.length) (e2:(assignEach ts' env).findIdx? (·.1)=none)
 (Y1:∀ws,E4 T W U s.heap xs ws->∀h',(∀a o,s.heap.get? a=some o->h'.get? a=some o)->wpAny (model T.prog T.w) A (assignInOrder ((assignEach ts' env).map (·.2)) ws) Q E {s with heap:=h'}):wpAny (model T.prog T.w) A (assign (.Tuple ts' i q) env w) Q E s:=by
 have hn:∀{ws:List Value},E4 T W U s.heap xs ws->(assignEach ts' env).length=ws.toArray.size:=λqs=>by rw[e1,Ph,qs.length]
 refine VR.Ap (G:=λw=>wpAny (model T.prog T.w) A (assign (.Tuple ts' i q) env w) Q E s) hv ex (λa ws l J qs=>wpAny_assign_Tuple hh l.tup (hn qs) e2 λh' he=>Y1 ws qs h' (F5 he (none_at_size _))) λa ws l J qs=>?_
 rw[arm_assign_Tuple]
 refine OL (Pk ?_)
 unfold unpack
 rw[hn qs,e2]
 exact OL (Pd (kun_itemsOf hh l.list λh' he=>Y1 ws qs h' (F5 he (none_at_size _))))
theorem pw {kd:Kd} {e:X} {e':Ex} (te:Tr T kd e e') (h2:B5 e'=false) {ts':List Ex} {i line:Nat} {q:Pos} {env:Env}:swapsWithSole [.Tuple ts' i q] e' line env=pure false:=
 Tr.all (G:=λe'=>B5 e'=false->swapsWithSole [.Tuple ts' i q] e' line env=pure false) te (λJ J J=>rfl) (λJ J J J=>rfl) (λJ J J J J=>rfl) (λJ J J J=>rfl) (λJ J J J=>rfl) (λJ J J J J=>rfl) (λJ J J J J=>rfl) (λJ J J J=>rfl) (λJ J J J=>rfl) (λJ J J J=>rfl) (λJ J J=>rfl) (λJ J J J=>rfl) (λJ J J J=>rfl) (λJ J J J hc=>Bool.noConfusion hc) h2
theorem sU {kd:Kd} {e:X} {e':Ex} (te:Tr T kd e e') (h1:cy e'=false) {ts':List Ex} {i:Nat} {q:Pos} {env:Env}:swappedStores [.Tuple ts' i q] e' env=pure none:=
 Tr.all (G:=λe'=>cy e'=false->swappedStores [.Tuple ts' i q] e' env=pure none) te (λJ J J=>rfl) (λJ J J J=>rfl) (λJ J J J J=>rfl) (λJ J J J=>rfl) (λJ J J J=>rfl) (λJ J J J J=>rfl) (λJ J J J J=>rfl) (λJ J J J=>rfl) (λJ J J J=>rfl) (λJ J J J=>rfl) (λJ J J=>rfl) (λJ J J hc=>Bool.noConfusion hc) (λJ J J J=>rfl) (λJ J J J J=>rfl) h1
theorem ni (tk:E5 T P) (hr:g7 T n r.ev) (rm:Rm F n) (f:Fs F z m Y) {ts:List Mine.T} {e:X} (t:I8 T F.env.kindOf (.H4 ts e) st) (h:(g8 P r m (.H4 ts e) Y).c4 (KF F Q) (XF F E)):wpAny (model T.prog T.w) F.A (exec st F.env) Q E z.s:=
 t.eW λts' e' i q p tt te h1 h2=>Assign_Tuple (f.eval hr rm.r te h λv c9 w c5 c8 o hv hf h=>a9 h λxs ex h=>a9 h λJ eg h=>i9 eg λhz J=>match U9 (E:=E) tk hr rm tt with
  |⟨ss,e1,e2⟩=>iT f.cx.ar.handled hv ex (e1.trans (Pc hz).symm) e2 λws qs h' he=>
   have i8:i4 T z.W c8 c5 c9 c8 {c5 with heap:=h'}:=i4.keeps (t:=c5.toks) o.rel he
   bW ss ((f.step o).step i8) ⟨(i8.ext.IT qs).Cv,(λJ q=>nomatch q),List.nodup_nil,qs.oQ⟩ (R.d5.mp h) λm' c7 z' h f=>h z' f)
  (pw te h2) (sU te h1)
end
end Mine
end
section
open PySem PySem.W PyProof.Rows PySem.Calls
open AutoSeq1 (wpAny_loadPart')
namespace Mine
noncomputable abbrev G0:=@PySem.W.KBw.IsBytesIter
theorem P9 {h h':Heap} {a:Addr} {b:Array UInt8} {t:Tok} {i:Nat} (x:G0 h a b t i) (k:∀o,h.get? a=some o->h'.get? a=some o):G0 h' a b t i:=let ⟨o,e,r⟩:=x;⟨o,k o e,r⟩
variable {prog:Program} {w:World} {A:Around} {E:Value->Shared->Prop} {s:Shared}
section
variable {b:Array UInt8} {t:Tok}
theorem kJ {it:Addr} {i:Nat} {c:UInt8} {Q:Value->Shared->Prop} (hit:G0 s.heap it b t i) (hx:b[i]? =some c)
 (hQ:∀h',G0 h' it b t (i+1)->Heap.SameBut it s.heap h'->Q (.int (c.toNat:Int) s.toks) {s with heap:=h',toks:=s.toks+1}):wpAny (model prog w) A (Builtin.SmallTypes.nextOf (.ref it)) Q E s:=by
 obtain⟨o,ho,hc,hd⟩:=id hit
 unfold Builtin.SmallTypes.nextOf
 refine OL (wpAny_callSpecial?_slot (name:=Str.ofString "__next__") (KBw.iter_typeIs hit) KBw.slot_next (wpAny_call_entry KBw.slot_next (KBw.iter_typeIs hit) KBw.entry_next ?_ (KBw.args_next _)))
 show wpAny _ _ (field (.ref it) 0 >>= _) _ _ s
 refine OL (wpAny_field ho hd (x:=.bytes b t) rfl ?_)
 show wpAny _ _ (if(Value.bytes b t == Value.none)=true then _ else _) _ _ s
 rw[Pq (show¬((Value.bytes b t == Value.none)=true)from Bool.false_ne_true)]
 show wpAny _ _ (field (.ref it) 1 >>= _) _ _ s
 refine OL (wpAny_field ho hd (x:=.int i 0) rfl ?_)
 refine OL (wpAny_of_eq (a:=b) rfl ?_)
 simp only[Int.toNat_natCast,hx]
 refine OL (wpAny_setField ho hd (by simp) (OL (wpAny_mkInt (OM ⟨_,rfl,OM (hQ _ ?_ (Heap.SameBut.update ..))⟩))))
 exact⟨_,Heap.get?_update_self _ ho (Obj.isFreed_of_fields (Obj.data_mapFields hd _)),(Obj.cls_mapFields ..).trans hc,by
  rw[Obj.data_mapFields hd];simp[rawInt]⟩
theorem cq {it:Addr} {i:Nat} {Q:Value->Shared->Prop} (hh:A.handled=none) (hit:G0 s.heap it b t i) (hx:b[i]? =none)
 (hE:∀h' e,Heap.ExtBut it s.heap h'->(∃o,h'.get? e=some o∧o.cls=.type "StopIteration")->E (.ref e) {s with heap:=h'}):
 wpAny (model prog w) A (Builtin.SmallTypes.nextOf (.ref it)) Q E s:=by
 obtain⟨o,ho,hc,hd⟩:=id hit
 unfold Builtin.SmallTypes.nextOf
 refine OL (wpAny_callSpecial?_slot (name:=Str.ofString "__next__") (KBw.iter_typeIs hit) KBw.slot_next (wpAny_call_entry KBw.slot_next (KBw.iter_typeIs hit) KBw.entry_next ?_ (KBw.args_next _)))
 show wpAny _ _ (field (.ref it) 0 >>= _) _ _ s
 refine OL (wpAny_field ho hd (x:=.bytes b t) rfl ?_)
 show wpAny _ _ (if(Value.bytes b t == Value.none)=true then _ else _) _ _ s
 rw[Pq (show¬((Value.bytes b t == Value.none)=true)from Bool.false_ne_true)]
 show wpAny _ _ (field (.ref it) 1 >>= _) _ _ s
 refine OL (wpAny_field ho hd (x:=.int i 0) rfl ?_)
 refine OL (wpAny_of_eq (a:=b) rfl ?_)
 simp only[Int.toNat_natCast,hx]
 refine OL (wpAny_rule (OL (wpAny_setField ho hd (by simp) ?_)))
 show wpAny _ _ (newExc (.type "StopIteration") [] >>= _) _ _ _
 refine OL ?_
 simp only[newExc,newTuple]
 refine OL (wpAny_newObj_type ?_ (by size_fits))
 refine OL (m:=firstArgMember _ _) (wpAny_of_eq (a:=Value.none) (by first|rfl|(simp only[firstArgMember];rfl)) ?_)
 refine wpAny_newObj_type ?_ (by size_fits)
 simp only[raiseNew]
 refine OL (wpAny_handled ?_)
 first|rw[show A.in1.handled=none from hh]|rw[hh]
 refine OL (OM (wpAny_throw ?_))
 exact hE _ _ (((Heap.SameBut.update ..).extBut.push _).push _) ⟨_,OU _ rfl,rfl⟩
theorem se {e it:Addr} {i:Nat} {c:UInt8} {old:Value} {Q:Value->Shared->Prop}
 (he:IsEnum s.heap e it i old) (hit:G0 s.heap it b t i) (hx:b[i]? =some c) (hne:e≠it)
 (hQ:∀h',IsEnumOut h' e it ((i:Int)+1) (.int (c.toNat:Int) s.toks) s.heap.objs.size->G0 h' it b t (i+1)->
  h'.get? s.heap.objs.size=some {cls:=.type "tuple",data:=.seq #[.int i (s.toks+1),.int (c.toNat:Int) s.toks]}->h'.objs.size=s.heap.objs.size+1->
  (∀b o,b≠e->b≠it->s.heap.get? b=some o->h'.get? b=some o)->Q (.ref s.heap.objs.size) {s with heap:=h',toks:=s.toks+1+1}):
 wpAny (model prog w) A (Builtin.«enumerate.__next__» ⟨[.ref e],[]⟩) (λY1 s'=>∃v,Y1=.done (.ret v)∧Q v s') E s:=by
 obtain⟨hp,g,d,tk,os⟩:=s
 show wpAny _ _ (field (.ref e) 2 >>= _) _ _ _
 refine OL (wpAny_field he rfl (x:=.ref it) rfl ?_)
 refine OL (kJ hit hx λn6 zW jC=>?_)
 replace jC:Heap.SameBut it hp n6:=jC
 have gA:IsEnum n6 e it i old:=(jC.2 e hne).trans he
 show wpAny _ _ (field (.ref e) 3 >>= _) _ _ ⟨n6,g,d,tk+1,os⟩
 refine OL (wpAny_field gA rfl (x:=rawInt i) rfl ?_)
 show wpAny _ _ (field (.ref e) 4 >>= _) _ _ ⟨n6,g,d,tk+1,os⟩
 refine OL (wpAny_field gA rfl (x:=.none) rfl ?_)
 show wpAny _ _ (mkInt i >>= _) _ _ ⟨n6,g,d,tk+1,os⟩
 refine OL (wpAny_mkInt ?_)
 show wpAny _ _ (setField (.ref e) 3 (rawInt ((i:Int)+1)) >>= _) _ _ ⟨n6,g,d,tk+1+1,os⟩
 refine OL (wpAny_setField_rec gA (by simp) λr3 tZ jB=>?_)
 replace jB:Heap.SameBut e n6 r3:=jB
 replace tZ:IsEnum r3 e it ((i:Int)+1) old:=tZ
 show wpAny _ _ (setField (.ref e) 4 .none >>= _) _ _ ⟨r3,g,d,tk+1+1,os⟩
 refine OL (wpAny_setField_rec tZ (by simp) λT9 tY jA=>?_)
 replace jA:Heap.SameBut e r3 T9:=jA
 replace tY:IsEnum T9 e it ((i:Int)+1) old:=tY
 show wpAny _ _ (newTuple [.int i (tk+1),.int (c.toNat:Int) tk] >>= _) _ _ ⟨T9,g,d,tk+1+1,os⟩
 refine OL (wpAny_newTuple ?_)
 have tX:IsEnum (T9.push {cls:=.type "tuple",data:=.seq #[.int i (tk+1),.int (c.toNat:Int) tk]}) e it ((i:Int)+1) old:=OT _ tY
 generalize oN:T9.push {cls:=.type "tuple",data:=.seq #[.int i (tk+1),.int (c.toNat:Int) tk]}=oK at tX
 have hsz:T9.objs.size=hp.objs.size:=by rw[jA.1,jB.1,jC.1]
 have hel:e < hp.objs.size:=Pu he
 have Kl:oK.get? hp.objs.size=some {cls:=.type "tuple",data:=.seq #[.int i (tk+1),.int (c.toNat:Int) tk]}:=by rw[←oN,←hsz];exact OU _ rfl
 have Kj:oK.objs.size=hp.objs.size+1:=by rw[←oN,Heap.size_push,hsz]
 have Kn:∀b o,b≠e->b≠it->hp.get? b=some o->oK.get? b=some o:=λb o hbe hbi hb=>by
  rw[←oN];exact OT _ (jA.extBut b o hbe (jB.extBut b o hbe (jC.extBut b o hbi hb)))
 have HB:G0 oK it b t (i+1):=P9 zW λo ho=>by
  rw[←oN];exact OT _ (jA.extBut it o (Ne.symm hne) (jB.extBut it o (Ne.symm hne) ho))
 show wpAny _ _ (Builtin.SmallTypes.ownedTupleIsFree (.ref e) >>= _) _ _ ⟨oK,g,d,tk+1+1,os⟩
 rw[hsz]
 clear oN tY jA tZ jB gA jC zW hsz T9 r3 n6
 refine OL ?_
 unfold Builtin.SmallTypes.ownedTupleIsFree
 refine OL (wpAny_field tX rfl (x:=.none) rfl (OM ?_))
 simp only[if_true]
 refine OL (wpAny_rule ?_)
 refine OL (wpAny_field tX rfl (x:=old) rfl ?_)
 refine OL (wpAny_setField_rec tX (by simp) λiA zZ bl=>?_)
 replace bl:Heap.SameBut e oK iA:=bl
 replace zZ:IsEnum iA e it ((i:Int)+1) (.int (c.toNat:Int) tk):=zZ
 show wpAny _ _ (Builtin.SmallTypes.ownedTupleHandOut (.ref e) (.ref hp.objs.size) >>= _) _ _ ⟨iA,g,d,tk+1+1,os⟩
 refine OL ?_
 unfold Builtin.SmallTypes.ownedTupleHandOut
 refine OL (wpAny_setField_rec zZ (by simp) λHA zY jz=>?_)
 replace jz:Heap.SameBut e iA HA:=jz
 replace zY:IsEnumOut HA e it ((i:Int)+1) (.int (c.toNat:Int) tk) hp.objs.size:=zY
 refine wpAny_setField_rec zY (by simp) λHz zX jy=>?_
 replace jy:Heap.SameBut e HA Hz:=jy
 replace zX:IsEnumOut Hz e it ((i:Int)+1) (.int (c.toNat:Int) tk) hp.objs.size:=zX
 refine OL (wpAny_letGo (OM ⟨_,rfl,hQ Hz zX ?_ ?_ ?_ ?_⟩))
 ·exact P9 HB λo ho=>jy.extBut it o (Ne.symm hne) (jz.extBut it o (Ne.symm hne) (bl.extBut it o (Ne.symm hne) ho))
 ·exact jy.extBut _ _ (Nat.ne_of_gt hel) (jz.extBut _ _ (Nat.ne_of_gt hel) (bl.extBut _ _ (Nat.ne_of_gt hel) Kl))
 ·rw[jy.1,jz.1,bl.1,Kj]
 ·exact λb o hbe hbi hb=>jy.extBut b o hbe (jz.extBut b o hbe (bl.extBut b o hbe (Kn b o hbe hbi hb)))
end
theorem FN {prog:Program} {w:World} {A:Around} (hh:A.handled=none) (e it:Addr) (hei:e≠it) (b:Array UInt8) (t:Tok):
 WalksT prog w A e [e,it] [e,it] b.size
  (λi vals=>∃t1 t2 c,b[i]? =some c∧vals= #[.int i t1,.int (c.toNat:Int) t2])
  (λi h=>(∃old,IsEnum h e it i old)∧G0 h it b t i)
  (λi T h=>(∃x,IsEnumOut h e it ((i:Int)+1) x T)∧G0 h it b t (i+1)∧T≠e∧T≠it) where
 sub:=λJ hb=>hb
 frame:=λi h h' hst hk=>by
  obtain⟨⟨old,he⟩,hit⟩:=hst
  exact⟨⟨old,hk e (by simp) _ he⟩,P9 hit λo x=>hk it (by simp) o x⟩
 item:=λi s Q E hi hst hQ=>by
  obtain⟨⟨old,he⟩,hit⟩:=hst
  have hx:b[i]? =some b[i]:=Array.getElem?_eq_getElem hi
  have hT:s.TypeIs (.ref e) "enumerate":=⟨_,he,rfl⟩
  unfold pyNext
  refine OL (wpAny_attempt (wpAny_callSpecial?_slot (name:=Str.ofString "__next__") hT F.slot_enumerate_next
   (wpAny_call_entry F.slot_enumerate_next hT F.entry_enumerate_next (se he hit hx hei λh' ho hit' hTt hsz hk=>OM ?_) (F.args_enumerate_next_1 _))))
  have helt:e < s.heap.objs.size:=Pu he
  have hilt:it < s.heap.objs.size:=by obtain⟨_,x,_⟩:=hit;exact Pu x
  exact hQ s.heap.objs.size _ h' (s.toks+1+1) ⟨_,_,_,hx,rfl⟩ (Pw _) ⟨_,hTt,rfl,_,rfl⟩
   ⟨⟨_,ho⟩,hit',Nat.ne_of_gt helt,Nat.ne_of_gt hilt⟩
   λb o hb x=>hk b o (λe'=>hb (by simp[e'])) (λe'=>hb (by simp[e'])) x
 go:=λelts k pos i T s Q E hm hQ=>by
  obtain⟨⟨x,ho⟩,hit,hTe,hTi⟩:=hm
  refine wpAny_letOwnedTupleGo_enum ho λh' he' hs'=>hQ h' ⟨⟨x,by simpa using he'⟩,P9 hit λo y=>(hs'.2 it hei.symm).trans y⟩ λb o hb y=>?_
  exact(hs'.2 b λe'=>hb (by simp[e'])).trans y
 apart:=λi T h hm hT=>by
  obtain⟨_,_,hTe,hTi⟩:=hm
  rcases OW hT with rfl|hT
  ·exact hTe rfl
  ·rcases OW hT with rfl|hT
   ·exact hTi rfl
   ·cases hT
 done:=λs Q E hst hQ=>by
  obtain⟨⟨old,he⟩,hit⟩:=hst
  have hT:s.TypeIs (.ref e) "enumerate":=⟨_,he,rfl⟩
  unfold pyNext
  refine OL (wpAny_attempt (wpAny_callSpecial?_slot (name:=Str.ofString "__next__") hT F.slot_enumerate_next
   (wpAny_call_entry F.slot_enumerate_next hT F.entry_enumerate_next ?_ (F.args_enumerate_next_1 _))))
  show wpAny _ _ (field (.ref e) 2 >>= _) _ _ _
  refine OL (wpAny_field he rfl (x:=.ref it) rfl ?_)
  refine OL (cq hh hit (Array.getElem?_eq_none (Pw _)) λh' x he' hx'=>?_)
  obtain⟨o,ho,hc⟩:=hx'
  refine OL (wpAny_isInstance (T:="StopIteration") (b:=true) ⟨o,ho,hc⟩ isSubtype_stop ?_)
  exact OM (hQ h' s.toks λb o hb y=>he' b o (λe'=>hb (by simp[e'])) y)
 self:=λi s Q E hst hQ=>by
  obtain⟨⟨old,he⟩,_⟩:=hst
  exact wpAny_pyIter_enum he hQ
set_option maxHeartbeats 1000000 in
theorem T4 (b:Array UInt8) (t:Tok):
 Meets (Builtin.«enumerate.__new__» ⟨[.type "enumerate",.bytes b t],[]⟩) (λJ R s=>
  R (.ok (.ret (.ref (s.heap.push {cls:=.type "bytes_iterator",data:=.fields #[.bytes b t,.int 0 0]}).objs.size)))
   {s with heap:=(s.heap.push {cls:=.type "bytes_iterator",data:=.fields #[.bytes b t,.int 0 0]}).push {cls:=.type "enumerate",data:=.fields #[.none,.bool false,.ref s.heap.objs.size,rawInt 0,.none,.none]}}):=
 .of_wp λprog w A R s h=>by
  obtain⟨hp,g,d,tk,os⟩:=s
  have hsub:=sub_enumerate
  wp_walk
  refine wpAny_stack_any λst=>OM ?_
  split
  ·rename_i c _ _ _ _ _
   induction (c == Value.type "enumerate")
   ·wp_walk using KBw.pyIter_bytes
    exact⟨_,rfl,h⟩
   ·wp_walk using KBw.pyIter_bytes
    exact⟨_,rfl,h⟩
  ·wp_walk using KBw.pyIter_bytes
   exact⟨_,rfl,h⟩
section
theorem U4 {b:Array UInt8} {t:Tok} {Q:Value->Shared->Prop}
 (h:∀h',IsEnum h' (s.heap.objs.size+1) s.heap.objs.size 0 .none->G0 h' s.heap.objs.size b t 0->h'.objs.size=s.heap.objs.size+2->
  (∀b o,s.heap.get? b=some o->h'.get? b=some o)->Q (.ref (s.heap.objs.size+1)) {s with heap:=h'}):
 wpAny (model prog w) A (call (.type "enumerate") [.bytes b t]) Q E s:=by
 refine callType_new F.called_enumerate (by decide) (F.typeCall_enumerate_1 _) (F.newCall_enumerate_1 _) (λobj=>F.args_object_init_2 obj _) F.entry_enumerate_new
  (T4 b t) ?_
 have hz:(s.heap.push {cls:=.type "bytes_iterator",data:=.fields #[.bytes b t,.int 0 0]}).objs.size=s.heap.objs.size+1:=Heap.size_push ..
 show _∧_
 rw[hz]
 have he:IsEnum ((s.heap.push {cls:=.type "bytes_iterator",data:=.fields #[.bytes b t,.int 0 0]}).push
  {cls:=.type "enumerate",data:=.fields #[.none,.bool false,.ref s.heap.objs.size,rawInt 0,.none,.none]}) (s.heap.objs.size+1) s.heap.objs.size 0 .none:=by
  have:=OU (s.heap.push {cls:=.type "bytes_iterator",data:=.fields #[.bytes b t,.int 0 0]})
   (o:={cls:=.type "enumerate",data:=.fields #[.none,.bool false,.ref s.heap.objs.size,rawInt 0,.none,.none]}) rfl
  rw[hz]at this;exact this
 refine⟨⟨_,he,rfl⟩,h _ he ⟨_,OT _ (OU _ rfl),rfl,rfl⟩ (by rw[Heap.size_push,hz]) λb o y=>OT _ (OT _ y)⟩
end
end Mine
end
section
open PySem PySem.W PyProof.Rows PySem.Calls
namespace Mine
structure Bq (T:i7) (A:Around) (target:Ex) (I:Addr) (fp wr:List Addr) (n:Nat) (P Md:Nat->Value->Heap->Prop) (St:Nat->Heap->Prop):Prop where
 k:KTurns T.prog T.w A target I fp wr n P Md St
 self:∀i (s:Shared) (Q:Value->Shared->Prop) (E:Value->Shared->Prop),St i s.heap->Q (.ref I) s->wpAny (model T.prog T.w) A (pyIter (.ref I)) Q E s
 ex:∀i h,St i h->∀b,b∈wr->∃o,h.get? b=some o
 LR:∀i v h,Md i v h->∀b,b∈wr->∃o,h.get? b=some o
inductive LW (T:i7) (Hs:List (V×Value)) (u:V) (v:Value):Prop
 |G4 (i:bN T u v)
 |held (m:(u,v)∈Hs)
inductive Ll (T:i7) (Hs:List (V×Value)) (k:Nat) (u:V) (v:Value) (h:Heap):Prop
 |one (y:LW T Hs u v)
 |two (x y:V) (wx wy:Value) (a:Addr) (hk:k=2) (eu:u=.tup [x,y]) (ev:v=.ref a) (t:h.IsTuple a #[wx,wy]) (y1:LW T Hs x wx) (y2:LW T Hs y wy)
structure Em (T:i7) (W:r9) (U:List Addr) (A:Around) (target:Ex) (k:Nat) (s:Shared) (items:List V) (I:Addr) (h':Heap) (fp wr:List Addr) (P Md:Nat->Value->Heap->Prop) (St:Nat->Heap->Prop) (Hs:List (V×Value)):Prop where
 L:Bq T A target I fp wr items.length P Md St
 st:St 0 h'
 kp:∀a o,s.heap.get? a=some o->h'.get? a=some o
 new:∀b,b∈wr->s.heap.get? b=none
 fp:∀b,b∈fp->b∈wr∨(¬k9 T W U b∧∃o,s.heap.get? b=some o)
 hs:∀u v,(u,v)∈Hs->solid u=true∧eP T W U s.heap u v
 it:∀i v h,P i v h->∃u,items[i]? =some u∧Ll T Hs k u v h
inductive Ready (T:i7) (W:r9) (U:List Addr) (A:Around) (target:Ex) (k:Nat) (s:Shared) (items:List V):Value->Shared->Prop
 |mk (I:Addr) (h':Heap) (t:Nat) (fp wr:List Addr) (P Md:Nat->Value->Heap->Prop) (St:Nat->Heap->Prop) (Hs:List (V×Value)) (q:Em T W U A target k s items I h' fp wr P Md St Hs):Ready T W U A target k s items (.ref I) {s with heap:=h',toks:=t}
variable {T:i7} {P:Pg} {W:r9} {U:List Addr} {s:Shared} {Y:Hp} {A:Around} {E Q:Value->Shared->Prop} {target:Ex} {h:Heap}
section
variable {kx:Nat}
theorem dX {I:Addr} {fp:List Addr} {n:Nat} {P:Nat->Value->Prop} {St:Nat->Heap->Prop} (Wk:Walks T.prog T.w A I fp [I] n P St) (hgo:∀i v (s:Shared) (Q:Unit->Shared->Prop) (E:Value->Shared->Prop),St i s.heap->Q () s->wpAny (model T.prog T.w) A (letOwnedTupleGo target (.ref I) v) Q E s)
 (hex:∀i h,St i h->∃o,h.get? I=some o):Bq T A target I fp [I] n (λi v J=>P i v) (λi v h=>P i v∧St (i+1) h) St where
 k:=KTurns.ofWalks Wk hgo
 self:=Wk.self
 ex:=λi h st b hb=>(OX hb)▸hex i h st
 LR:=λi v h st b hb=>(OX hb)▸hex _ h st.2
theorem eR {xs:List V} {us:List Value} {i:Nat} {v:Value} (q:us.length=xs.length) (hp:us[i]? =some v):∃u,xs[i]? =some u∧(u,v)∈xs.zip us:=by
 have hi:i < xs.length:=q▸(List.getElem?_eq_some_iff.mp hp).1
 exact⟨xs[i],Pb hi,Pm (List.getElem?_zip_eq_some.mpr ⟨Pb hi,hp⟩)⟩
theorem my {us:List Value} {i:Nat} {v:Value} (h:us.toArray[i]? =some v):us[i]? =some v:=(List.getElem?_toArray ..).symm.trans h
theorem dQ {h:Heap}:∀b,b∈[h.objs.size]->h.get? b=none:=y9 h
theorem Ad {I a:Addr} (nb:¬k9 T W U a) (ha:∃o,h.get? a=some o):∀b,b∈[I,a]->b∈[I]∨(¬k9 T W U b∧∃o,h.get? b=some o):=λb hb=>(OW hb).elim (λe=>.inl (e▸.head _)) λhb=>.inr ((OX hb)▸⟨nb,ha⟩)
theorem qO {a:Addr} {xs:List V} {us:List Value} (hh:A.handled=none) (hl:R6 s.heap a us) (nb:¬k9 T W U a) (q:E4 T W U s.heap xs us) (k:∀it s2,Ready T W U A target kx s xs it s2->Q it s2):wpAny (model T.prog T.w) A (pyIter (.ref a)) Q E s:=by
 have Wk:=Walks.list (prog:=T.prog) (w:=T.w) hh s.heap.objs.size a (Nat.ne_of_lt (hl.there.elim λJ e=>Pu e)) us.toArray
 rw[show us.toArray.size=xs.length from(Ph ..).trans q.length]at Wk
 exact wpAny_pyIter_list hl.list (k _ _ ⟨s.heap.objs.size,_,s.toks,_,_,_,_,_,xs.zip us,dX (target:=target) Wk (λi v s Q E st h=>letGo_listiter st.1 h) (λi h st=>match st.1 with|⟨o,e,_,_⟩=>⟨o,e⟩),⟨⟨_,OU _ rfl,rfl,rfl⟩,hl.list.push _⟩,g9 _ _,dQ,Ad nb hl.there,W9 q,
  λi v h hp=>(eR q.length (my hp)).elim λu z=>⟨u,z.1,.one (.held z.2)⟩⟩)
theorem nQ {a:Addr} {xs:List V} {us:List Value} (hh:A.handled=none) (hl:mZ s.heap a us) (nb:¬k9 T W U a) (q:E4 T W U s.heap xs us) (k:∀it s2,Ready T W U A target kx s xs it s2->Q it s2):wpAny (model T.prog T.w) A (pyIter (.ref a)) Q E s:=by
 have Wk:=Walks.tuple (prog:=T.prog) (w:=T.w) hh s.heap.objs.size a (Nat.ne_of_lt (hl.there.elim λJ e=>Pu e)) us.toArray
 rw[show us.toArray.size=xs.length from(Ph ..).trans q.length]at Wk
 exact wpAny_pyIter_tuple hl.tup (k _ _ ⟨s.heap.objs.size,_,s.toks,_,_,_,_,_,xs.zip us,dX (target:=target) Wk (λi v s Q E st h=>letGo_tupleiter st.1 h) (λi h st=>match st.1 with|⟨o,e,_,_⟩=>⟨o,e⟩),⟨⟨_,OU _ rfl,rfl,rfl⟩,hl.tup.push _⟩,g9 _ _,dQ,Ad nb hl.there,W9 q,
  λi v h hp=>(eR q.length (my hp)).elim λu z=>⟨u,z.1,.one (.held z.2)⟩⟩)
theorem vp {x:Txt} {t:Tok} {id:Str} {p:Pos} (hh:A.handled=none) (ha:t6 x=true) (k:∀it s2,Ready T W U A (.Name id p) 1 s (x.map λc=>.str [c]) it s2->Q it s2):wpAny (model T.prog T.w) A (pyIter (.str (i3 x) t)) Q E s:=by
 have hc:(i3 x).cps.all (· < 128)=true:=by
  show x.toArray.all _=true
  rw[List.all_toArray]
  exact List.all_eq_true.mpr λc hc=>decide_eq_true (OO (List.all_eq_true.mp ha c hc))
 have Wk:=Walks.strAscii (prog:=T.prog) (w:=T.w) hh s.heap.objs.size (i3 x) t
 rw[show(i3 x).cps.size=(x.map λc=>V.str [c]).length from(OZ ..).symm]at Wk
 exact wpAny_pyIter_ascii hc (k _ _ ⟨s.heap.objs.size,_,s.toks,_,_,_,_,_,[],dX (target:=.Name id p) Wk (λi v s Q E st h=>OM h) (λi h st=>match st with|⟨o,e,_,_⟩=>⟨o,e⟩),⟨_,OU _ rfl,rfl,rfl⟩,g9 _ _,dQ,λb hb=>.inl hb,(λJ J q=>nomatch q),λi v h hp=>match hp with
  |⟨c,u,e,ev⟩=>by
   have e:x[i]? =some c:=(List.getElem?_toArray ..).symm.trans e
   exact⟨.str [c],by rw[Po,e];rfl,.one (.G4 (ev▸.str [c] u (Bool.and_eq_true_iff.mpr ⟨List.all_eq_true.mp ha c (Pm e),rfl⟩)))⟩⟩)
theorem nR {h0:Heap} {t0:Nat} (kp:∀a o,s.heap.get? a=some o->h0.get? a=some o) {rr:Addr} {a b c:Nat} {t u v:Tok} {id:Str} {p:Pos} {items:List V} (hh:A.handled=none) (hr:IsRange h0 rr (a:Int) (b:Int) (c:Int) t u v) (hsmall:Builtin.Range.small (a:Int) (b:Int) (c:Int)=true) (hn:Builtin.Range.rangeSize (a:Int) (b:Int) (c:Int)=(items.length:Int))
 (hi:∀i,i < items.length->items[i]? =some (.int (a+i * c:Int))) (k:∀it s2,Ready T W U A (.Name id p) 1 s items it s2->Q it s2):wpAny (model T.prog T.w) A (pyIter (.ref rr)) Q E {s with heap:=h0,toks:=t0}:=by
 have Wk:=(Walks.range (prog:=T.prog) (w:=T.w) hh h0.objs.size (a:Int) (c:Int) items.length).bound
 have e1:=OU h0 (o:={cls:=.type "range_iterator",data:=.fields #[rawInt (a:Int),rawInt (items.length:Int),rawInt (c:Int)]}) rfl
 have e2:(a:Int)+(0:Nat) * (c:Int)=a:=by rw[Int.natCast_zero,Int.zero_mul,Int.add_zero]
 refine wpAny_pyIter_range (s:={s with heap:=h0,toks:=t0}) hr hsmall (k _ _ ⟨h0.objs.size,_,t0,_,_,_,_,_,[],dX (target:=.Name id p) Wk (λi v s Q E st h=>OM h) (λi h st=>⟨_,st⟩),?_,λa o e=>g9 _ _ _ _ (kp a o e),λb hb=>?_,λb hb=>.inl hb,(λJ J q=>nomatch q),λi v h hp=>?_⟩)
 ·rw[hn]
  simpa using e1
 ·rw[OX hb]
  cases e:s.heap.get? h0.objs.size with
  |none=>rfl
  |some o=>exact d0 (none_at_size _) (kp _ o e)
 ·obtain⟨hlt,t,ev⟩:=hp
  exact⟨_,hi i hlt,.one (.G4 (ev▸.int _ t))⟩
theorem jm {e it:Addr} {fp:List Addr} {k:Nat} {elts:List Ex} {x1:Nat} {pos:Pos} {Pt:Nat->Array Value->Prop} {St:Nat->Heap->Prop} {Mid:Nat->Addr->Heap->Prop} (Wk:WalksT T.prog T.w A e fp [e,it] k Pt St Mid)
 (h1:∀i h,St i h->(∃o,h.get? e=some o)∧∃o,h.get? it=some o) (h2:∀i a h,Mid i a h->(∃o,h.get? e=some o)∧∃o,h.get? it=some o):
 Bq T A (.Tuple elts x1 pos) e fp [e,it] k (λi v h=>∃T vals,v=.ref T∧Pt i vals∧h.IsTuple T vals) (λi v h=>∃T vals,v=.ref T∧Pt i vals∧h.IsTuple T vals∧Mid i T h) St where
 k:=KTurns.ofWalksU Wk.toU
 self:=Wk.self
 ex:=λi h st b hb=>(OW hb).elim (λq=>q▸(h1 i h st).1) λhb=>(OX hb)▸(h1 i h st).2
 LR:=λi v h st b hb=>match st with
  |⟨_,_,_,_,_,hm⟩=>(OW hb).elim (λq=>q▸(h2 _ _ h hm).1) λhb=>(OX hb)▸(h2 _ _ h hm).2
theorem two_new {h:Heap}:∀b,b∈[h.objs.size+1,h.objs.size]->h.get? b=none:=λb hb=>(OW hb).elim (λq=>q▸Heap.get?_none_of_le (Nat.le_succ _)) λq=>(OX q)▸none_at_size _
theorem pd {α:Type} {f:α×Nat->V} {xs:List α} {i:Nat} {x:α} (h:xs[i]? =some x):(xs.zipIdx.map f)[i]? =some (f (x,i)):=by rw[Po,List.getElem?_zipIdx,h,Option.map_some,Option.map_some,Nat.zero_add]
theorem nV {a:Addr} {xs:List V} {us:List Value} {elts:List Ex} {x1:Nat} {pos:Pos} (hh:A.handled=none) (hl:R6 s.heap a us) (nb:¬k9 T W U a) (q:E4 T W U s.heap xs us) {R:Value->Shared->Prop}
 (k:∀x c5,(∀Q E,(∀it s2,Ready T W U A (.Tuple elts x1 pos) 2 s (gN xs) it s2->Q it s2)->wpAny (model T.prog T.w) A (pyIter x) Q E c5)->R x c5):wpAny (model T.prog T.w) A (call (.type "enumerate") [.ref a]) R E s:=by
 have hlt:a < s.heap.objs.size:=hl.there.elim λJ e=>Pu e
 have Wk:=WalksT.enumerate (prog:=T.prog) (w:=T.w) hh (s.heap.objs.size+1) s.heap.objs.size a (Nat.succ_ne_self _) (Nat.ne_of_lt (Nat.lt_succ_of_lt hlt)) (Nat.ne_of_lt hlt) us.toArray
 rw[show us.toArray.size=(gN xs).length by rw[gN,OZ,List.length_zipIdx,Ph,q.length]]at Wk
 refine call_enumerate_list hl.list λh' he hit hsz hk=>k _ _ λQ E kq=>wpAny_pyIter_enum he (kq _ _ ⟨_,h',s.toks,_,_,_,_,_,xs.zip us,jm (elts:=elts) (x1:=x1) (pos:=pos) Wk (λi h st=>match st with|⟨⟨_,h1⟩,⟨o,h2,_,_⟩,_⟩=>⟨⟨_,h1⟩,o,h2⟩) (λi a h hm=>match hm with|⟨⟨_,h1⟩,⟨o,h2,_⟩,_⟩=>⟨⟨_,h1⟩,o,h2⟩),
  ⟨⟨_,he⟩,hit,hl.list.at λo e=>hk _ _ e⟩,hk,two_new,λb hb=>?_,W9 q,λi v h hp=>?_⟩)
 ·exact(OW hb).elim (λe=>.inl (e▸.head _)) λhb=>(OW hb).elim (λe=>.inl (e▸.tail _ (.head _))) λhb=>.inr ((OX hb)▸⟨nb,hl.there⟩)
 ·obtain⟨Ta,vals,ev,⟨t,x,hx,e2⟩,hT⟩:=hp
  obtain⟨u,hu,hm⟩:=eR q.length (my hx)
  exact⟨_,pd hu,.two _ _ _ _ Ta rfl rfl ev (e2▸hT) (.G4 (.int _ t)) (.held hm)⟩
theorem nX {b:List Nat} {ab:Array UInt8} {t:Tok} {elts:List Ex} {x1:Nat} {pos:Pos} (hh:A.handled=none) (hb:ab.toList.map UInt8.toNat=b) {R:Value->Shared->Prop}
 (k:∀x c5,(∀Q E,(∀it s2,Ready T W U A (.Tuple elts x1 pos) 2 s (uh b) it s2->Q it s2)->wpAny (model T.prog T.w) A (pyIter x) Q E c5)->R x c5):wpAny (model T.prog T.w) A (call (.type "enumerate") [.bytes ab t]) R E s:=by
 have Wk:=FN (prog:=T.prog) (w:=T.w) hh (s.heap.objs.size+1) s.heap.objs.size (Nat.succ_ne_self _) ab t
 rw[show ab.size=(uh b).length by rw[uh,OZ,List.length_zipIdx,←hb,OZ,Array.length_toList]]at Wk
 refine U4 λh' he hit hsz hk=>k _ _ λQ E kq=>wpAny_pyIter_enum he (kq _ _ ⟨_,h',s.toks,_,_,_,_,_,[],jm (elts:=elts) (x1:=x1) (pos:=pos) Wk (λi h st=>match st with|⟨⟨_,h1⟩,⟨o,h2,_,_⟩⟩=>⟨⟨_,h1⟩,o,h2⟩) (λi a h hm=>match hm with|⟨⟨_,h1⟩,⟨o,h2,_⟩,_⟩=>⟨⟨_,h1⟩,o,h2⟩),
  ⟨⟨_,he⟩,hit⟩,hk,two_new,λb hb=>.inl hb,(λJ J q=>nomatch q),λi v h hp=>?_⟩)
 obtain⟨Ta,vals,ev,⟨t1,t2,c,hc,e2⟩,hT⟩:=hp
 have hc':b[i]? =some c.toNat:=by rw[←hb,Po,Array.getElem?_toList,hc];rfl
 exact⟨_,pd hc',.two _ _ _ _ Ta rfl rfl ev (e2▸hT) (.G4 (.int _ t1)) (.G4 (.int _ t2))⟩
end
noncomputable def AX:Bi->Value
 |.len=>.builtin "len" |.isinstance=>.builtin "isinstance" |.sorted=>.builtin "sorted" |.all=>.builtin "all" |.sum=>.builtin "sum" |.bytes=>.type "bytes" |.dict=>.type "dict" |.int=>.type "int" |.bool=>.type "bool"
inductive II (T:i7) (C:Addr) (m k:Nat):Prop
 |mk (a:Addr) (ha:T.fn k=some a) (g:plainGet T.K C (T.nm m)=true) (f:findIn T.K (.ref C) (T.nm m)=some (some (.ref a))) (i:isFn T.K (.ref a)=true)
inductive LB (T:i7):Prop
 |mk (mg mb:Str->Option Value) (n1:T.B.Ns mainGlobals mg) (n2:T.B.Ns builtinsNs mb) (e1:mg "enumerate"=none∧mb "enumerate"=some (.type "enumerate")) (e2:mg "range"=none∧mb "range"=some (.type "range")) (e3:mg "sorted"=none∧mb "sorted"=some (.builtin "sorted"))
structure TM (T:i7) (P:Pg):Prop extends E5 T P where
 fns:∀k a fd,T.fn k=some a->P.fns[k]? =some fd->Er T a fd λkd body=>sI T kd fd.body body
 l5:∀c C m k,T.cls c=some C->ag P c m=some k->II T C m k
 keep:∀k a,T.fn k=some a->keepIn T.K (.ref a)=true
 blt:LB T
 LV:∀b,T.bi b=AX b
def Keeps (K:Frag) (M:Model) (f:Value):Prop:=∀h,K.In h->∃k,(k=Keeper.frame∨k=Keeper.machine∨k=Keeper.boundFrame)∧Looks M h (keeperOf f) k
theorem M5 {K:Frag} {M:Model} {f:Value} (hf:keeperOf f=pure .machine):Keeps K M f:=λh J=>⟨.machine,.inr (.inl rfl),hf▸.now⟩
variable {n:Nat} {r:Ev} {env:Env} {own:List (Nat×Addr)} {m:Fr}
section
theorem W6 {kd:Kd} {es:List X} {es':List Ex} (t:Z2 T kd es es') (pos:Pos) (env:Env):(backTo pos (starEach es' env)).any (·.1)=false:=by
 induction t with
 |nil=>rfl
 |cons _ e' _ es' te _ ih=>rw[V5 te];exact ih
theorem J2 {kd:Kd} {es:List X} {es':List Ex} (t:Z2 T kd es es') {f:Value} {pos:Pos} {Q:Args->Shared->Prop} (h0:es'=[]->Q ⟨[],[]⟩ s)
 (h:wpAny (model T.prog T.w) A (spliced (backTo pos (starEach es' env))) (λws s'=>Q ⟨ws,[]⟩ s') E s):wpAny (model T.prog T.w) A (evalArgs f true (backTo pos (starEach es' env)) (backToKw pos (keywordEach [] env))) Q E s:=by
 induction t with
 |nil=>exact evalArgs_nil3 (h0 rfl)
 |cons _ e' es es' te ts=>
  rw[V5 te]at h⊢
  exact evalArgs_plain h
theorem bD (tk:E5 T P) (hr:g7 T n r.ev) (c:Cx T W n A env own m U Y s) {es:List X} {es':List Ex} (t:Z2 T env.kindOf es es') {f:Value} {first:List Value} {pos:Pos} (hk:Keeps T.K (model T.prog T.w) f) {α:Type} {K:α->Hp->Prop} {g:List V->Hp->R α}
 (h:((G7 r m es Y).bind g).c4 K (XV T W U s E)) (k:∀vs c7 ws s' d7,i4 T W U s c7 d7 s'->E4 T W d7 s'.heap vs ws->(g vs c7).c4 K (XV T W U s E)->wpAny (model T.prog T.w) A (call f (first++ws)) Q E s'):
 wpAny (model T.prog T.w) A (callWith pos f first (backTo pos (starEach es' env)) (backToKw pos (keywordEach [] env))) Q E s:=by
 refine callWith_of (P:=λh=>T.K.In h) (by rw[W6 t];rfl) hk (J2 t (λe=>?_) (gM hr t c (R.c4.mono (R.d5.mp h) (λvs c7 q ws s' d7 o x=>⟨k7 tk o.rel,k vs c7 ws s' d7 o x q⟩) λJ J x=>x)))
 subst e
 cases t
 exact⟨k7 tk c.rel,k [] Y [] s U (i4.refl c.rel) .nil h⟩
theorem J3 (tk:E5 T P) (hr:g7 T n r.ev) (c:Cx T W n A env own m U Y s) {es:List X} {es':List Ex} (t:Z2 T env.kindOf es es') {f:Value} {first:List Value} {pos:Pos} (hk:Keeps T.K (model T.prog T.w) f)
 (h:(m7 r m es Y).c4 (NY T W U s λws s'=>wpAny (model T.prog T.w) A (call f (first++ws)) Q E s') (XV T W U s E)):
 wpAny (model T.prog T.w) A (callWith pos f first (backTo pos (starEach es' env)) (backToKw pos (keywordEach [] env))) Q E s:=by
 refine callWith_of (P:=λh=>T.K.In h) (by rw[W6 t];rfl) hk (J2 t (λe=>?_) (jM hr t c (R.c4.mono h (λvs c7 q ws s' d7 o x=>⟨k7 tk o.rel,q ws s' d7 o x⟩) λJ J x=>x)))
 subst e
 cases t
 exact⟨k7 tk c.rel,h [] s U (i4.refl c.rel) ⟨W,[],s8.refl,c.rel,.nil,List.nodup_nil,λJ q=>nomatch q⟩⟩
theorem aV (c:Cx T W n A env own m U Y s) {id:Str} {v:Value} {p:Pos} {mg mb:Str->Option Value} (n1:T.B.Ns mainGlobals mg) (n2:T.B.Ns builtinsNs mb) (e:mg id=none∧mb id=some v) (hd:(id ==("__debug__":Str))=false) (hk:env.kindOf id=some .globalImplicit) (h:Q v s):wpAny (model T.prog T.w) A (eval (.Name id p) env) Q E s:=
 Name_function_global c.fr.kind hk (loadGlobal_builtin (c.fr.glob▸A2 c.rel.base n1) e.1 (c.fr.blt▸A2 c.rel.base n2) e.2 h) hd
theorem u9 (id:Str) (q:Pos) (args:List Ex) (kws:List Keyword) (pos:Pos) (env:Env):eval (.Call (.Name id q) args kws pos) env=(do callWith pos (←eval (.Name id q) env) [] (backTo pos (starEach args env)) (backToKw pos (keywordEach kws env))):=rfl
theorem jr {α:Type} {l:List α} {n:Nat} (h:l.length=n+1):∃a r,l=a::r∧r.length=n:=by
 induction l with
 |nil=>exact nomatch h
 |cons a r=>exact⟨a,r,rfl,Nat.succ.inj h⟩
theorem uj {n i:Nat} (h:i < n):n+1 - (i+1) < n+1 - i:=Nat.sub_lt_sub_left (Nat.lt_succ_of_lt h) (Nat.lt_succ_self i)
theorem U0 {z:Int} (h1:0≤z) (h2:z≤3000):Builtin.Range.rangeFitsLong z=true:=by
 unfold Builtin.Range.rangeFitsLong
 exact Bool.and_eq_true_iff.mpr ⟨decide_eq_true (Int.le_trans (by decide) h1),decide_eq_true (Int.lt_of_le_of_lt h2 (by decide))⟩
theorem qP {a b c:Nat} (hc:0 < c):Builtin.Range.rangeSize (a:Int) (b:Int) (c:Int)=(((b - a+(c - 1)) / c:Nat):Int):=by
 unfold Builtin.Range.rangeSize
 rw[Pp (Int.natCast_pos.mpr hc)]
 by_cases h:(a:Int) < b
 ·rw[Pp h]
  have e:((b:Int) - a - 1) / c+1=(((b - a - 1) / c+1:Nat):Int):=by
   rw[Int.natCast_add,Int.natCast_ediv]
   congr 2
   omega
  have h':a < b:=Int.ofNat_lt.mp h
  have e2:b - a+(c - 1)=(b - a - 1)+c:=(Nat.add_sub_assoc hc (b - a)).symm.trans (Nat.sub_add_comm (Nat.sub_pos_of_lt h'))
  rw[e2,Nat.add_div_right _ hc]
  first|exact e|(simp only[e])|(rw[←e];rfl)
 ·rw[Pq h]
  have h':b≤a:=Pr λq=>h (Int.ofNat_lt.mpr q)
  rw[Nat.sub_eq_zero_of_le h',Nat.zero_add,Nat.div_eq_of_lt (Nat.sub_lt hc Nat.one_pos)];rfl
theorem qR {a b c i:Nat} (h:i < (K1 a b c).length):(K1 a b c)[i]? =some (.int (a+i * c:Int)):=by
 unfold K1 at h⊢
 rw[OZ,List.length_range]at h
 rw[Po,List.getElem?_range h]
 rfl
theorem qQ {a b c:Nat}:(K1 a b c).length=(b - a+(c - 1)) / c:=(OZ ..).trans List.length_range
theorem aa {kx:Nat} {a b c:Nat} (hh:A.handled=none) (ha:a≤1000) (hb:b≤1000) (hc:0 < c) (hc':c≤8) {rr:Addr} {t u v:Tok} {h0:Heap} {t0:Nat} {id:Str} {p:Pos} (kp:∀a o,s.heap.get? a=some o->h0.get? a=some o) (hr:IsRange h0 rr (a:Int) (b:Int) (c:Int) t u v)
 (k:∀it s2,Ready T W U A (.Name id p) 1 s (K1 a b c) it s2->Q it s2):wpAny (model T.prog T.w) A (pyIter (.ref rr)) Q E {s with heap:=h0,toks:=t0}:=by
 have hN:=qP (a:=a) (b:=b) hc
 have hk:(b - a+(c - 1)) / c≤1007:=OV (Nat.div_le_self _ _) (Nat.add_le_add (OV (Nat.sub_le b a) hb) (Nat.sub_le_sub_right hc' 1))
 have hm:(b - a+(c - 1)) / c * c≤1007:=OV (Nat.div_mul_le_self _ _) (Nat.add_le_add (OV (Nat.sub_le b a) hb) (Nat.sub_le_sub_right hc' 1))
 refine nR kp hh hr ?_ (hN.trans (OY Nat.cast qQ.symm)) (λi hi=>qR hi) k
 unfold Builtin.Range.small
 rw[hN]
 have e:(((b - a+(c - 1)) / c:Nat):Int) * (c:Int)=(((b - a+(c - 1)) / c * c:Nat):Int):=(Int.natCast_mul _ _).symm
 rw[U0 (Pj a) (Int.ofNat_le.mpr (OV ha (by decide))),U0 (Pj b) (Int.ofNat_le.mpr (OV hb (by decide))),U0 (Pj c) (Int.ofNat_le.mpr (OV hc' (by decide))),U0 (Pj ((b - a+(c - 1)) / c)) (Int.ofNat_le.mpr (OV hk (by decide)))]
 simp only[Bool.true_and,Bool.and_true]
 have hp:(0:Int) < (c:Int):=Int.natCast_pos.mpr hc
 rw[Pp hp]
 rw[U0 (z:=(b:Int)+((c:Int) - 1)) (Int.add_nonneg (Pj b) (Int.le_sub_one_of_lt hp)) (Int.le_trans (Int.add_le_add (Int.ofNat_le.mpr hb) (Int.sub_le_sub_right (Int.ofNat_le.mpr hc') 1)) (by decide)),Bool.or_true]
theorem Ox {a:Nat} {t:Tok}:(Value.int (Int.ofNat a) t)=.int ((a:Nat):Int) t:=rfl
theorem CO {vs:List V} {ws:List Value} {h:Heap} (x:xu T W U h vs ws):∀{l:List Nat},GQ vs=some l->∃ts:List Tok,ts.length=l.length∧ws=(l.zip ts).map λp=>Value.int ((p.1:Nat):Int) p.2:=by
 induction x with
 |nil=>exact λe=>by cases e;exact⟨[],rfl,rfl⟩
 |cons v w vs ws a _ ih=>exact λe=>a0 e λi ei e=>a0 e λk ek e=>d8 e λr er e=>(by
  obtain⟨ts,h1,h2⟩:=ih er
  subst e
  refine u6 (G:=λw=>∃ts:List Tok,ts.length=(k::r).length∧w::ws=((k::r).zip ts).map λp=>Value.int ((p.1:Nat):Int) p.2) a ei λt=>⟨t::ts,OY (· +1) h1,?_⟩
  rw[h2,T2 ek];rfl)
theorem ph {v:V} {ys:List V} (e:Fh v=some ys):E3 v=some ys∧dA v=false:=by cases v<;>first|exact⟨e,rfl⟩|exact ns e
theorem Gn {l:List Nat} {ts:List Tok} {items:List V} {G:List Value->Prop} (hl:ts.length=l.length) (e:Gp l=some items)
 (h1:∀b t,b≤1000->K1 0 b 1=items->G [.int (b:Nat) t]) (h2:∀a b t u,a≤1000->b≤1000->K1 a b 1=items->G [.int (a:Nat) t,.int (b:Nat) u])
 (h3:∀a b t u v,a≤1000->b≤1000->K1 a b 8=items->G [.int (a:Nat) t,.int (b:Nat) u,.int (8:Nat) v]):G ((l.zip ts).map λp=>Value.int ((p.1:Nat):Int) p.2):=by
 unfold Gp at e
 refine i0 e (λe=>a0 e λb eb e=>i9 e λg er=>?_) λe=>i0 e (λe=>a0 e λq eq e=>i9 e λg er=>a7 g λg1 g2=>?_) λe=>a0 e λq eq e=>i9 e λg er=>a7 g λg g3=>a7 g λg1 g2=>?_
 ·rw[B3 eb]at hl⊢
  obtain⟨t,rfl⟩:=List.length_eq_one_iff.mp hl
  exact h1 b t (OO g) er
 ·rw[two1_eq eq]at hl⊢
  obtain⟨t,ts',rfl,hl2⟩:=jr hl
  obtain⟨u,rfl⟩:=List.length_eq_one_iff.mp hl2
  exact h2 _ _ t u (OO g1) (OO g2) er
 ·rw[uR eq]at hl⊢
  obtain⟨t,ts',rfl,hl2⟩:=jr hl
  obtain⟨u,ts'',rfl,hl3⟩:=jr hl2
  obtain⟨v,rfl⟩:=List.length_eq_one_iff.mp hl3
  have g3:=Pc g3
  rw[g3]at er⊢
  exact h3 _ _ t u v (OO g1) (OO g2) er
theorem yl (tm:TM T P) (hr:g7 T n r.ev) (c:Cx T W n A env own m U Y s) {src:mK} {it:List X} {it':Ex} {xs:List Nat} {Rx:Value->Shared->Prop} {α:Type} {K:α->Hp->Prop} {X':Txt->Hp->Prop} {i:Nat} {g1:Nat->Hp->R α} {g2:List V->Hp->R α} {kd:Kd} (t:bJ T env.kindOf src it it') (tx:qe T kd xs target)
 (h:(m7 r m it Y).z6.c4 (λvs c7=>(og (gc src vs) (λl=>g1 l c7) ((b8 i (aI src xs.length vs) c7).bind g2)).c4 K X') X')
 (k1:∀items c9 c5 c8 x l3,i4 T W U s c9 c8 c5->(∀Q E,(∀it s3,Ready T W c8 A target xs.length c5 items it s3->Q it s3)->wpAny (model T.prog T.w) A (pyIter x) Q E l3)->(g2 items c9).c4 K X'->Rx x l3)
 (k2:∀l c9 c5 c8 a,i4 T W U s c9 c8 c5->c8[l]? =some a->(g1 l c9).c4 K X'->Rx (.ref a) c5):wpAny (model T.prog T.w) A (eval it' env) Rx E s:=by
 have hh:=c.ar.handled
 have h:=R.J5 h
 induction t with
 |val e e' te=>
  refine hr c te (R.c4.mono (R.d5.mp h) (λv c9 k w c5 c8 o hw hf=>?_) λJ J x=>x.elim)
  refine cg (K:=λz=>R.c4 z _ _) (o:=L2 v) k (λl el k=>A9 hw el λa ha=>k2 l c9 c5 c8 a o ha k) λJ k=>a9 k λitems ei k=>k1 items c9 c5 c8 w c5 o (λQ E kq=>?_) k
  exact i0 ei (λei=>a0 ei λx ex ei=>i9 ei λg e0=>a7 g λg1 g2=>by
   induction tx with
   |one y p _ _=>exact n8 hw ex λtk ha=>vp hh ha (e0▸kq)
   |two=>exact Bool.noConfusion g1) λei=>VR.Ap (G:=λw=>wpAny (model T.prog T.w) A (pyIter w) Q E c5) hw ei (λa ws l nb q=>nQ hh l nb q kq) λa ws l nb q=>qO hh l nb q kq
 |enum es es' q p hk te=>
  rw[u9]
  refine OL (match tm.blt with|⟨mg,mb,n1,n2,e1,_,_⟩=>aV c n1 n2 e1 rfl hk (J3 tm.toE5 hr c te (M5 rfl) (R.c4.mono h (λvs c9 k ws c5 c8 o x=>?_) λJ J x=>x.elim)))
  have vr:=x.vr c.rel.o5
  show wpAny (model T.prog T.w) A (call (.type "enumerate") ([]++ws)) Rx E c5
  refine a9 k λitems ei k=>a0 ei λv ev ei=>vr.one (G:=λws=>wpAny (model T.prog T.w) A (call (.type "enumerate") ([]++ws)) Rx E c5) ev λw hw=>a0 ei λJ g e9=>i9 g λg J=>?_
  have k1:=λx l3 hx=>k1 items c9 c5 c8 x l3 o hx k
  induction tx with
  |one=>exact Bool.noConfusion g
  |two y z p q i r _ _ _ _=>
   exact i0 e9 (λe9=>a0 e9 λb eb e9=>i9 e9 λJ e9=>F6 hw eb λab t hb=>nX hh hb λx l3 kq=>k1 x l3 (e9▸kq)) λe9=>a0 e9 λys ey e9=>i9 e9 λJ e9=>
    VR.z0 hw (ph ey).1 λa ws l nb q=>nV hh l (nb (ph ey).2) q λx l3 kq=>k1 x l3 (e9▸kq)
 |range es es' q p hk te hlen=>
  rw[u9]
  refine OL (match tm.blt with|⟨mg,mb,n1,n2,_,e1,_⟩=>aV c n1 n2 e1 rfl hk (J3 tm.toE5 hr c te (M5 rfl) (R.c4.mono h (λvs c9 k ws c5 c8 o x=>?_) λJ J x=>x.elim)))
  have vr:=x.vr c.rel.o5
  show wpAny (model T.prog T.w) A (call (.type "range") ([]++ws)) Rx E c5
  refine a9 k λitems ei k=>a0 ei λJ g ei=>i9 g λg J=>a0 ei λl el e9=>?_
  have k1:=λx l3 hx=>k1 items c9 c5 c8 x l3 o hx k
  induction tx with
  |two=>exact Bool.noConfusion g
  |one y p _ _=>
   obtain⟨ts,hl,hw⟩:=CO vr el
   rw[hw]
   exact Gn (G:=λws=>wpAny (model T.prog T.w) A (call (.type "range") ([]++ws)) Rx E c5) hl e9 (λb t g er=>call_range_1 (k1 _ _ (er▸λQ E kq=>aa (kx:=1) hh (Nat.zero_le _) g Nat.one_pos (by decide) (g9 _ _) (OU _ rfl) kq)))
    (λa b t u g1 g2 er=>call_range_2 (k1 _ _ (er▸λQ E kq=>aa (kx:=1) hh g1 g2 Nat.one_pos (by decide) (g9 _ _) (OU _ rfl) kq)))
    λa b t u v g1 g2 er=>call_range_3 (show((8:Nat):Int)≠0 by decide) (k1 _ _ (er▸λQ E kq=>aa (c:=8) (kx:=1) hh g1 g2 (by decide) (by decide) (g9 _ _) (OU _ rfl) kq)) (.inl (PyProof.noPylong_small (show((8:Nat):Int).natAbs < 1073741824 by decide)))
end
theorem bN.solid {T:i7} {v:V} {w:Value} (x:bN T v w):solid v=true:=bN.rec (motive:=λv J J=>Mine.solid v=true) rfl (λJ=>rfl) (λJ J=>rfl) (λJ J J=>rfl) (λJ J J J=>rfl) (λJ J J=>rfl) (λJ J J=>rfl) (λJ=>rfl) x
variable {F:Fx T} {z:Zt} {m':Fr} {st:PySem.Stmt} {Hs:List (V×Value)}
section
variable {Q:Flow->Shared->Prop}
theorem Fs.LG (f:Fs F z m Y) (hs:∀u v,(u,v)∈Hs->(u,v)∈F.Hv) {u:V} {v:Value} (y:LW T Hs u v):Lr F z u v:=by
 induction y with
 |G4 i=>exact⟨i.solid,.G4 _ _ i⟩
 |held q=>exact f.hd.vals u v (hs u v q)
theorem pK (tk:E5 T P) (f:Fs F z m Y) {x y:Nat} {a b:V} {wa wb:Value} {Tt:Addr} {p q r:Pos} {i:Nat} {Q:Unit->Shared->Prop} (gx:d6 T.glob x=none) (kx:F.env.kindOf (T.nm x)=some .local) (gy:d6 T.glob y=none) (ky:F.env.kindOf (T.nm y)=some .local) (ht:z.s.heap.IsTuple Tt #[wa,wb]) (ha:Lr F z a wa) (hb:Lr F z b wb)
 (k:∀s',Fs F (z.to z.U s') (putN (putN m x a) y b) Y->Q () s'):wpAny (model T.prog T.w) F.A (assign (.Tuple [.Name (T.nm x) p,.Name (T.nm y) q] i r) F.env (.ref Tt)) Q E z.s:=by
 refine wpAny_assign_Tuple f.cx.ar.handled ht rfl rfl λh' he=>?_
 have i8:i4 T z.W z.U z.s Y z.U {z.s with heap:=h'}:=i4.keeps (t:=z.s.toks) f.cx.rel (F5 he (none_at_size _))
 have B9:Fs (F.hold [] [(b,wb)]) _ m Y:=(f.step i8).holds (λJ J J q=>nomatch q) λv w q=>by cases OX q;exact⟨hb.g,i8.ext.vs hb.r⟩
 show wpAny _ F.A (do holding [wb] (assign (.Name (T.nm x) p) F.env wa);assignInOrder [assign (.Name (T.nm y) q) F.env] [wb]) Q E _
 refine OL (Pd (assign_Name (B9.store tk (.loc gx kx) ha.g (i8.ext.vs ha.r) λw9 Q2=>?_)))
 show wpAny _ F.A (do holding [] (assign (.Name (T.nm y) q) F.env wb);assignInOrder [] []) Q E _
 have hb':=Q2.hd.vals b wb (.head _)
 exact OL (Pd (assign_Name (Q2.store tk (.loc gy ky) hb'.g hb'.r λaG S5=>OM (k aG S5.y7))))
theorem lT (tk:E5 T P) (f:Fs F z m Y) (hs:∀u v,(u,v)∈Hs->(u,v)∈F.Hv) {xs:List Nat} {u:V} {v:Value} {Q:Unit->Shared->Prop} (tx:qe T F.env.kindOf xs target) (y:Ll T Hs xs.length u v z.s.heap) (e:jW xs u m=some m') (k:∀s',Fs F (z.to z.U s') m' Y->Q () s'):wpAny (model T.prog T.w) F.A (assign target F.env v) Q E z.s:=by
 induction tx with
 |one x p h1 h2=>
  cases e
  induction y with
  |one y=>have q:=f.LG hs y;exact assign_Name (f.store tk (.loc h2 h1) q.g q.r k)
  |two _ _ _ _ _ hk=>exact nomatch hk
 |two x x' p q i r h1 h2 h3 h4=>
  refine a0 e λl el e=>d8 e λab eab e=>?_
  subst e
  rw[bF el,two1_eq eab]at y
  induction y with
  |one y=>
   have d:=f.LG hs y
   exact VR.E7 (bad:=k9 T z.W z.U) (f7:=k9 T z.W z.U) (G:=λv=>wpAny (model T.prog T.w) F.A (assign (.Tuple [.Name (T.nm x) p,.Name (T.nm x') q] i r) F.env v) Q E z.s) (.mk _ _ d.r) λa ws ht J qs=>by
    cases qs with|cons _ wa _ ws g1 q1 qs=>cases qs with|cons _ wb _ ws g2 q2 qs=>cases qs;exact pK tk f h2 h1 h4 h3 ht.tup ⟨g1,q1⟩ ⟨g2,q2⟩ k
  |two x1 y1 wx wy Tt _ eu ev ht y1 y2=>
   cases eu
   subst ev
   exact pK tk f h2 h1 h4 h3 ht (f.LG hs y1) (f.LG hs y2) k
noncomputable def y8 (h:Heap) (b:Bool) (ds:List Addr):List (Addr×Obj×Bool):=ds.filterMap λa=>(h.get? a).map λo=>(a,o,b)
theorem w8 {h:Heap} {b b':Bool} {ds:List Addr} {a:Addr} {o:Obj}:(a,o,b')∈y8 h b ds↔a∈ds∧h.get? a=some o∧b'=b:=by
 unfold y8
 rw[List.mem_filterMap]
 constructor
 ·rintro⟨c,hc,e⟩
  exact d8 e λo' e1 e2=>by cases e2;exact⟨hc,e1,rfl⟩
 ·rintro⟨h1,h2,rfl⟩
  exact⟨a,h1,by rw[h2];rfl⟩
structure Walk (F:Fx T) (z:Zt) (fp wr:List Addr):Prop where
 l:∀b,b∈wr->l8 F z b
 fp:∀b,b∈fp->b∈wr∨(¬k9 T z.W z.U b∧∃o,z.s.heap.get? b=some o)
inductive Lu (F:Fx T) (Hs:List (V×Value)) (fp wr:List Addr) (St:Nat->Heap->Prop) (items:List V) (Kp:Fr->Hp->List V->Prop) (k:Nat) (s':Shared):Prop
 |mk (i:Nat) (z:Zt) (m:Fr) (Y:Hp) (e:z.s=s') (ek:k=items.length+1 - i) (hi:i≤items.length) (f:Fs (F.hold [] Hs) z m Y) (w:Walk F z fp wr) (st:St i s'.heap) (h:Kp m Y (items.drop i))
theorem Fs.bo {H:List (Addr×Obj×Bool)} (f:Fs (F.hold [] Hs) z m Y) (hH:∀a o b,(a,o,b)∈H->sM F z a o b):Fs (F.hold H Hs) z m Y:=
 ⟨f.cx,⟨f.st.v5,f.st.inj,f.st.aR,f.st.O4,f.st.cD,f.st.aw,f.st.old⟩,f.out,⟨λa o b q=>have x:sM (F.hold [] Hs) z a o b:=(Px q).elim (λq=>have x:=hH a o b q;⟨x.at_,x.nm,x.nn,x.nc,x.own,x.nb⟩) (f.hd.objs a o b);⟨x.at_,x.nm,x.nn,x.nc,x.own,x.nb⟩,λv w q=>have x:=f.hd.vals v w q;⟨x.g,x.r⟩⟩⟩
theorem pn {H:List (Addr×Obj×Bool)} {Hv:List (V×Value)} {p:Fl×Fr} {k:Fr->Hp->R (Fl×Fr)} {X':Txt->Hp->Prop} (h:(gT p k Y).c4 (KF F Q) X') {Q':Flow->Shared->Prop} (hr:∀w s,Q (.ret w) s->Q' (.ret w) s) (hn:∀z,(k p.2 Y).c4 (KF F Q) X'->Fs (F.hold H Hv) z p.2 Y->Q' .next z.s):KF (F.hold H Hv) Q' p Y:=by
 obtain⟨fl,m⟩:=p
 induction fl with
 |ret v=>exact λw s' d7 o hv hf=>hr w s' ((show KV T F.W0 F.Z4 F.s0 (λw=>Q (.ret w)) v Y from h) w s' d7 o hv hf)
 |next=>exact λz f=>hn z h f
theorem l8.ix {z':Zt} {a:Addr} (l:l8 F z a) (e1:z'.W=z.W) (e2:z'.own=z.own):l8 F z' a:=⟨e1▸l.C9,e2▸l.OK,l.cell,l.new,l.out,l.held⟩
theorem Dx (tk:E5 T P) (hx:V0 T n r.Y9) (rm:Rm F n) {xs:List Nat} {b:List S} {b':List PySem.Stmt} {items:List V} {I:Addr} {fp wr:List Addr} {Pt Md:Nat->Value->Heap->Prop} {St:Nat->Heap->Prop} {Rz:Result->Shared->Prop} (tx:qe T F.env.kindOf xs target) (tb:sI T F.env.kindOf b b')
 (L:Bq T F.A target I fp wr items.length Pt Md St) (hR:∀f s,Q f s->Rz (.ok f) s) (hP:∀i v h,Pt i v h->∃u,items[i]? =some u∧Ll T Hs xs.length u v h) (f:Fs (F.hold [] Hs) z m Y) (w:Walk F z fp wr) (st:St 0 z.s.heap)
 (h:(Q4 r xs b items m Y).c4 (KF F Q) (XF F E)):codeAny (model T.prog T.w) F.A (.forLoop target (.ref I) b' [] F.env) Rz z.s:=by
 refine codeAny_forLoop_any (Lu F Hs fp wr St items λm Y l=>(Q4 r xs b l m Y).c4 (KF F Q) (XF F E)) (λk s' a=>?_) _ ⟨0,z,m,Y,rfl,rfl,Nat.zero_le _,f,w,st,h⟩
 obtain⟨i,y,l,τ,e,ek,hi,f,w,st,h⟩:=a
 subst e
 by_cases hlt:i < items.length
 ·refine L.k.item i _ _ _ hlt st λv n6 E8 md ju=>?_
  have lo:∀b,b∈wr->l8 (F.hold [] Hs) y b:=λb hb=>(w.l b hb).hold λJ q=>nomatch q
  have z8:=f.cU (h':=n6) (t:=E8) (D:=λb=>b∈wr) lo (λa ob e q=>ju a ob q e) λb hb=>L.LR i v n6 md b hb
  refine L.k.go i v _ _ _ md λr3 hp fg jt=>?_
  have B9:Fs (F.hold [] Hs) (y.hp r3 E8) l τ:=z8.cU (h':=r3) (t:=E8) (D:=λb=>b∈wr) (λb hb=>(lo b hb).ix rfl rfl) (λa ob e q=>jt a ob q e) λb hb=>L.ex _ _ fg b hb
  obtain⟨u,hu,hy⟩:=hP i v r3 hp
  have hd:items.drop i=u::items.drop (i+1):=(List.drop_eq_getElem_cons hlt).trans (OY (· ::_) (ON ((Pb hlt).symm.trans hu)))
  rw[hd]at h
  refine a9 h λm₂ eb h=>?_
  have l₂:∀b,b∈wr->l8 F (y.hp r3 E8) b:=λb hb=>(w.l b hb).ix rfl rfl
  have jI:∀b,b∈fp->b∉wr->¬k9 T y.W y.U b∧∃o,r3.get? b=some o:=λb hb hw=>(w.fp b hb).elim (λq=>absurd q hw) λq=>⟨q.1,q.2.elim λo e=>⟨o,jt b o hw (ju b o hw e)⟩⟩
  have nw:∀{c},c∈fp.filter (λb=>!(wr.contains b))->c∈fp∧c∉wr:=λq=>⟨(List.mem_filter.mp q).1,λk=>by have c2:=(List.mem_filter.mp q).2;rw[List.contains_iff_mem.mpr k]at c2;exact Bool.noConfusion c2⟩
  have g:Fs (F.hold (y8 r3 true wr++y8 r3 false (fp.filter λb=>!(wr.contains b))) Hs) (y.hp r3 E8) l τ:=Fs.bo B9 λa o bb q=>(Px q).elim (λq=>by
   obtain⟨q1,q2,rfl⟩:=w8.mp q
   exact(l₂ a q1).Fe B9.y7 q2) λq=>by
   obtain⟨q1,q2,rfl⟩:=w8.mp q
   exact B9.y7.NP (jI a (nw q1).1 (nw q1).2).1 q2
  refine lT tk g (λu v q=>OQ _ q) tx hy eb λw9 Q2=>?_
  refine hx (F:=F.hold (y8 r3 true wr++y8 r3 false (fp.filter λb=>!(wr.contains b))) Hs) rm.hold Q2 tb (R.c4.mono (dM (X'':=λJ J=>False) h) (λp n9 h=>pn h (λw s q=>hR _ _ q) λeQ h S5=>?_) λJ J x=>x.elim)
  have Y0:∀{c},c∈wr->∃o,r3.get? c=some o∧sM (F.hold (y8 r3 true wr++y8 r3 false (fp.filter λb=>!(wr.contains b))) Hs) eQ c o true:=λ{c} hc=>(L.ex _ _ fg c hc).elim λo e=>⟨o,e,S5.hd.objs c o true (OQ _ (OQ _ (w8.mpr ⟨hc,e,rfl⟩)))⟩
  have inF:∀{c},c∈fp->c∉wr->∃o,r3.get? c=some o∧sM (F.hold (y8 r3 true wr++y8 r3 false (fp.filter λb=>!(wr.contains b))) Hs) eQ c o false:=λ{c} hc hw=>(jI c hc hw).2.elim λo e=>⟨o,e,S5.hd.objs c o false (OQ _ (OS _ (w8.mpr ⟨List.mem_filter.mpr ⟨hc,by induction q:wr.contains c with|false=>rfl|true=>exact absurd (List.contains_iff_mem.mp q) hw⟩,e,rfl⟩)))⟩
  exact⟨items.length+1 - (i+1),ek.symm▸uj hlt,i+1,eQ,p.2,n9,rfl,rfl,hlt,S5.N8 (λJ q=>nomatch q) λJ q=>q,⟨λc hc=>(Y0 hc).elim λo q=>⟨q.2.own rfl,q.2.nn,q.2.nc,(w.l c hc).new,(w.l c hc).out,(w.l c hc).held⟩,
   λc hc=>Classical.byCases (λhw:c∈wr=>.inl hw) λhw=>.inr ((inF hc hw).elim λo q=>⟨q.2.nb rfl,o,q.2.at_⟩)⟩,L.k.frame _ _ _ fg λc hc o e=>Classical.byCases (λhw:c∈wr=>(Y0 hw).elim λo' q=>ON (q.1.symm.trans e)▸q.2.at_) λhw=>(inF hc hw).elim λo' q=>ON (q.1.symm.trans e)▸q.2.at_,h⟩
 ·have hin:i=items.length:=Nat.le_antisymm hi (Pr hlt)
  subst hin
  refine L.k.done _ _ _ st λn6 E8 kp=>?_
  have z8:=f.y7.je (h':=n6) (t:=E8) (ds:=wr) w.l λa ob e q=>kp a ob q e
  rw[List.drop_length]at h
  exact wpAny_execs_nil (hR _ _ (h _ z8))
end
section
variable {Q:Flow->Shared->Prop}
theorem bf {W:r9} {U:List Addr} {h:Heap} (c:d9 T W U Y h) {l:Nat} {a:Addr} {us:List V} (ha:U[l]? =some a) (e:listAt Y l=some us):Nr T W U h a us:=
 a0 e λo eo e=>by
  rw[O0 e]at eo
  exact c.at eo λa' h1 q=>(ON (h1.symm.trans ha))▸q
theorem P6 {h:Heap} {I a:Addr} {j:Nat} (x:h.IsListIter I a j):∃o,h.get? I=some o:=match x with|⟨o,e,_,_⟩=>⟨o,e⟩
inductive Nw (F:Fx T) (l:Nat) (a I:Addr) (Kp:Nat->Nat->Fr->Hp->Prop) (k:Nat) (s':Shared):Prop
 |mk (j:Nat) (z:Zt) (m:Fr) (Y:Hp) (e:z.s=s') (f:Fs (F.hold [] [(.loc l,.ref a)]) z m Y) (w:l8 F z I) (st:s'.heap.IsListIter I a j) (h:Kp k j m Y)
theorem Dy (tk:E5 T P) (hx:V0 T n r.Y9) (rm:Rm F n) {xs:List Nat} {b:List S} {b':List PySem.Stmt} {l:Nat} {a I:Addr} {Rz:Result->Shared->Prop} (tx:qe T F.env.kindOf xs target) (tb:sI T F.env.kindOf b b')
 (hR:∀f s,Q f s->Rz (.ok f) s) (f:Fs (F.hold [] [(.loc l,.ref a)]) z m Y) (w:l8 F z I) (st:z.s.heap.IsListIter I a 0) (h:(Dz r xs b l 64 0 m Y).c4 (KF F Q) (XF F E)):codeAny (model T.prog T.w) F.A (.forLoop target (.ref I) b' [] F.env) Rz z.s:=by
 refine codeAny_forLoop_any (Nw F l a I λk j m Y=>(Dz r xs b l k j m Y).c4 (KF F Q) (XF F E)) (λk s' c=>?_) _ ⟨0,z,m,Y,rfl,f,w,st,h⟩
 obtain⟨j,y,q,τ,e,f,w,st,h⟩:=c
 subst e
 induction k with
 |zero=>exact h.elim
 |succ k=>
  have hla:y.U[l]? =some a:=VR.A9 (G:=λv=>v=Value.ref a->y.U[l]? =some a) (bad:=k9 T y.W y.U) (f7:=k9 T y.W y.U) (h:=y.s.heap) (.mk _ _ (f.hd.vals (.loc l) (.ref a) (.head _)).r) (λa' e q=>Value.ref.inj q▸e) rfl
  refine a9 h λus eu h=>match bf f.cx.rel hla eu with|⟨ws,hls,qs⟩=>cg (K:=λz=>R.c4 z _ _) h (λu eu h=>?_) λeu h=>?_
  ·refine qs.at eu λv hw g hv=>?_
   refine wpAny_pyNext_list_item st hls.list (x:=v) ((List.getElem?_toArray ..).trans hw) λn6 aH sb=>?_
   have Ac:Fs (F.hold [] [(u,v),(.loc l,.ref a)]) y q τ:=⟨f.cx,⟨f.st.v5,f.st.inj,f.st.aR,f.st.O4,f.st.cD,f.st.aw,f.st.old⟩,f.out,⟨λa o b q=>have x:=f.hd.objs a o b q;⟨x.at_,x.nm,x.nn,x.nc,x.own,x.nb⟩,λv' w' q=>(OW q).elim (λe=>by cases e;exact⟨g,hv⟩) λq=>have x:=f.hd.vals v' w' q;⟨x.g,x.r⟩⟩⟩
   have z8:Fs (F.hold [] [(u,v),(.loc l,.ref a)]) (y.hp n6 y.s.toks) q τ:=Ac.cU (h':=n6) (t:=y.s.toks) (D:=λb=>b=I) (λb e=>(show b=I from e)▸w.hold λJ q=>nomatch q) (SameBut.off sb) λb e=>(show b=I from e)▸P6 aH
   refine letGo_listiter aH (a9 h λm₂ eb h=>?_)
   obtain⟨oI,eI⟩:=P6 aH
   have FL:l8 F (y.hp n6 y.s.toks) I:=w.ix rfl rfl
   have B9:Fs (F.hold [(I,oI,true)] [(u,v),(.loc l,.ref a)]) (y.hp n6 y.s.toks) q τ:=Fs.bo z8 λa o bb q=>by cases OX q;exact FL.Fe z8.y7 eI
   refine lT (Hs:=[(u,v)]) tk B9 (λu' v' q=>(OX q)▸.head _) tx (.one (.held (.head _))) eb λw9 Q2=>?_
   refine hx (F:=F.hold [(I,oI,true)] [(u,v),(.loc l,.ref a)]) rm.hold Q2 tb (R.c4.mono (dM (X'':=λJ J=>False) h) (λp n9 h=>pn h (λw s q=>hR _ _ q) λeQ h S5=>?_) λJ J x=>x.elim)
   have x:=S5.hd.objs I oI true (.head _)
   exact⟨k,Nat.lt_succ_self k,j+1,eQ,p.2,n9,rfl,S5.N8 (H':=[]) (Hv':=[(.loc l,.ref a)]) (λJ q=>nomatch q) λJ q=>.tail _ q,⟨x.own rfl,x.nn,x.nc,w.new,w.out,w.held⟩,(match aH with|⟨o,e,r⟩=>⟨o,ON (eI.symm.trans e)▸x.at_,r⟩),h⟩
  ·have hw:ws.toArray[j]? =none:=(List.getElem?_toArray ..).trans (List.getElem?_eq_none (qs.length.symm▸List.getElem?_eq_none_iff.mp eu))
   refine wpAny_pyNext_list_end f.cx.ar.handled st hls.list hw λn6 kp=>?_
   have z8:=f.y7.je (h':=n6) (t:=y.s.toks) (ds:=[I]) (λb hb=>(OX hb)▸w) λa ob e q=>kp a ob (λz=>q (List.mem_singleton.mpr z)) e
   exact wpAny_execs_nil (hR _ _ (h _ z8))
theorem nF {kd:Kd} {src:mK} {it:List X} {it':Ex} (t:bJ T kd src it it') (env:Env):∀x,foldedSetIterable it' env x=pure x:=by
 induction t with
 |val e e' te=>exact Tr.all (G:=λit'=>∀x,foldedSetIterable it' env x=pure x) te (λJ J J=>rfl) (λJ J J J=>rfl) (λJ J J J J=>rfl) (λJ J J J=>rfl) (λJ J J J=>rfl) (λJ J J J J=>rfl) (λJ J J J J=>rfl) (λJ J J J=>rfl) (λJ J J J=>rfl) (λJ J J J=>rfl) (λJ J J=>rfl) (λJ J J J=>rfl) (λJ J J J=>rfl) (λJ J J J J=>rfl)
 |enum=>exact λJ=>rfl
 |range=>exact λJ=>rfl
theorem Ae (tm:TM T P) (hr:g7 T n r.ev) (hx:V0 T n r.Y9) (rm:Rm F n) (f:Fs F z m Y) {xs:List Nat} {src:mK} {it:List X} {b:List S} (t:I8 T F.env.kindOf (.F2 xs src it b) st) (h:(g8 P r m (.F2 xs src it b) Y).c4 (KF F Q) (XF F E)):wpAny (model T.prog T.w) F.A (exec st F.env) Q E z.s:=
 t.HE λtgt it' b' p ts tx tb=>wpAny_For (yl tm hr (f.mY rm.r) ts tx (R.d5.mp h) (λitems c9 c5 c8 x l3 o kr h=>kr _ _ λit s3 rd=>by
  induction rd with
  |mk I hh tt fp wr Pt Md St Hs q=>
   have z8:=f.step o
   have B9:Fs (F.hold [] Hs) _ m c9:=(z8.holds (H:=[]) (λJ J J q=>nomatch q) λu v k=>⟨(q.hs u v k).1,(q.hs u v k).2⟩).adopt (ds:=wr) (t:=tt) q.kp q.new λd hd=>q.L.ex _ _ q.st d hd
   exact Dx tm.toE5 hx rm tx tb q.L (λf s q=>q) q.it B9 ⟨λb hb=>z8.loose (q.new b hb) (OQ _ hb),λb hb=>(q.fp b hb).imp id λk=>⟨λy=>(R1 y).elim (λy=>k.2.elim λo e=>d0 (q.new b y) e) k.1,k.2.elim λo e=>⟨o,q.kp b o e⟩⟩⟩ q.st h)
  λl c9 c5 c8 a o ha h=>q8 h λJ h=>by
   have z8:=f.step o
   have hls:∃us,listAt c9 l=some us:=a9 h λus e J=>⟨us,e⟩
   exact match hls with
    |⟨us,eu⟩=>match bf z8.cx.rel ha eu with
     |⟨ws,hl,qs⟩=>wpAny_pyIter_list hl.list (by
      have B9:Fs (F.hold [] [(.loc l,.ref a)]) _ m c9:=(z8.holds (H:=[]) (Hv:=[(.loc l,.ref a)]) (λJ J J q=>nomatch q) λu v k=>by cases OX k;exact⟨rfl,.loc l a ha⟩).adopt (h':=c5.heap.push {cls:=.type "list_iterator",data:=.fields #[.ref a,.int 0 0]}) (ds:=[c5.heap.objs.size]) (t:=c5.toks) (g9 _ _) (y9 _) (O2 rfl)
      exact Dy tm.toE5 hx rm tx tb (λf s q=>q) B9 (z8.loose (none_at_size _) (.head _)) ⟨_,OU _ rfl,rfl,rfl⟩ h)) (nF ts F.env)
end
noncomputable def v7 (cells:List (Str×Addr)):List (Str×NameKind)->List (Str×Addr)->List (Str×Addr)
 | [],acc=>acc
 |p::r,acc=>if p.2 ==.free then v7 cells r ((p.1,(cells.lookup p.1).getD 0)::acc)else v7 cells r acc
section
variable {cells:List (Str×Addr)} {y:Str} {c:Addr} {names:List (Str×NameKind)}
theorem wW:∀{acc:List (Str×Addr)},(∀x∈names,x.2=.free->∃c,cells.lookup x.1=some c)->(y,c)∈v7 cells names acc->(y,c)∈acc∨((y,NameKind.free)∈names∧cells.lookup y=some c):=by
 induction names with
 |nil=>exact λJ=>.inl
 |cons p r ih=>
  intro acc hc h
  have h:_∈if p.2 ==.free then v7 cells r ((p.1,(cells.lookup p.1).getD 0)::acc)else v7 cells r acc:=h
  by_cases q:(p.2 == NameKind.free)=true
  ·rw[Pp q]at h
   have q:=beq_iff_eq.mp q
   exact(ih (λx hx=>hc x (.tail _ hx)) h).elim (λh=>(OW h).elim (λe=>.inr ((hc p (.head _) q).elim λc' e'=>by
    rw[e']at e
    cases e
    exact⟨by rw[←q];exact .head _,e'⟩)) .inl) λh=>.inr ⟨.tail _ h.1,h.2⟩
  ·rw[Pq q]at h
   exact(ih (λx hx=>hc x (.tail _ hx)) h).imp id λh=>⟨.tail _ h.1,h.2⟩
theorem wY {p:Str×Addr}:∀{acc:List (Str×Addr)},p∈acc->p∈v7 cells names acc:=by
 induction names with
 |nil=>exact λh=>h
 |cons a r ih=>
  intro acc h
  show _∈if a.2 ==.free then v7 cells r ((a.1,(cells.lookup a.1).getD 0)::acc)else v7 cells r acc
  by_cases q:(a.2 == NameKind.free)=true
  ·rw[Pp q];exact ih (.tail _ h)
  ·rw[Pq q];exact ih h
theorem wX:∀{acc:List (Str×Addr)},(y,NameKind.free)∈names->∃c,(y,c)∈v7 cells names acc:=by
 induction names with
 |nil=>exact λh=>nomatch h
 |cons a r ih=>
  intro acc h
  show∃c,_∈if a.2 ==.free then v7 cells r ((a.1,(cells.lookup a.1).getD 0)::acc)else v7 cells r acc
  by_cases q:(a.2 == NameKind.free)=true
  ·rw[Pp q];exact(OW h).elim (λe=>by cases e;exact⟨_,wY (.head _)⟩) ih
  ·rw[Pq q];exact(OW h).elim (λe=>absurd (e▸rfl) q) ih
theorem gV (hc:∀x∈names,x.2=.free->∃c,cells.lookup x.1=some c) (h:(v7 cells names []).lookup y=some c):(y,NameKind.free)∈names∧cells.lookup y=some c:=(wW hc (mem_of_lookup h)).elim (λq=>absurd q List.not_mem_nil) id
theorem ax (hc:∀x∈names,x.2=.free->∃c,cells.lookup x.1=some c) (h:(y,NameKind.free)∈names):(v7 cells names []).lookup y=cells.lookup y:=
 (wX (cells:=cells) (acc:=[]) h).elim λc hm=>(Y7 hm).elim λc' e=>e.trans (gV hc e).2.symm
end
noncomputable def pD (env:Env) (x:Str×NameKind) (cs:List (Str×Addr)):Sem (ForInStep (List (Str×Addr))):=match x with
 |(OK,kind)=>if(kind == NameKind.free)=true then(do let a←cellOf env OK;pure (ForInStep.yield ((OK,a)::cs)))else pure (ForInStep.yield cs)
theorem rS {env:Env} {names:List (Str×NameKind)}:∀{acc:List (Str×Addr)},(∀x∈names,x.2=.free->∃c,env.cells.lookup x.1=some c)->forIn names acc (pD env)=(pure (v7 env.cells names acc):Sem (List (Str×Addr))):=by
 induction names with
 |nil=>exact λJ=>rfl
 |cons p r ih=>
  intro acc hc
  rw[List.forIn_cons]
  show((if(p.2 == NameKind.free)=true then(do let a←cellOf env p.1;pure (ForInStep.yield ((p.1,a)::acc)))else pure (ForInStep.yield acc)) >>= _)=pure (if p.2 ==.free then v7 env.cells r ((p.1,(env.cells.lookup p.1).getD 0)::acc)else v7 env.cells r acc)
  by_cases q:(p.2 == NameKind.free)=true
  ·rw[Pp q,Pp q]
   obtain⟨c,e⟩:=hc p (.head _) (beq_iff_eq.mp q)
   simp only[cellOf,e,Option.getD_some,pure_bind]
   exact ih λx hx=>hc x (.tail _ hx)
  ·rw[Pq q,Pq q,pure_bind]
   exact ih λx hx=>hc x (.tail _ hx)
theorem Z1 {scope:Scope} {env:Env} (hc:∀x∈scope.names,x.2=.free->∃c,env.cells.lookup x.1=some c):closureFor scope env=pure (v7 env.cells scope.names []):=by
 have e:closureFor scope env=(forIn scope.names [] (pD env) >>= λcs=>pure cs):=rfl
 rw[e,rS hc];rfl
theorem O3 (x y:Nat) (m:Fr):d6 (M8 x m) y=bif Nat.beq x y then none else d6 m y:=by
 induction m with
 |nil=>show none=_;induction Nat.beq x y<;>rfl
 |cons p r ih=>
  show d6 (bif Nat.beq p.1 x then M8 x r else p::M8 x r) y=bif Nat.beq x y then none else bif Nat.beq p.1 y then some p.2 else d6 r y
  cases e:Nat.beq p.1 x with
  |true=>
   rw[Pc e]
   exact ih.trans (by induction Nat.beq x y<;>rfl)
  |false=>
   show(bif Nat.beq p.1 y then some p.2 else d6 (M8 x r) y)=_
   induction q:Nat.beq p.1 y with
   |false=>exact ih
   |true=>rw[←Pc q,show Nat.beq x p.1=false by induction k:Nat.beq x p.1 with|false=>rfl|true=>rw[Pc k,Nat.beq_refl]at e;exact Bool.noConfusion e];rfl
theorem X3 {m:Fr} {x:Nat} {v:V}:d6 (C7 m) x=some v->d6 m x=some v∧quiet v=true:=by
 induction m with
 |nil=>exact λh=>nomatch h
 |cons p r ih=>
  intro h
  have h:d6 (bif quiet p.2 then p::C7 r else M8 p.1 (C7 r)) x=some v:=h
  show(bif Nat.beq p.1 x then some p.2 else d6 r x)=some v∧_
  induction hq:quiet p.2 with
  |true=>
   rw[hq]at h
   have h:(bif Nat.beq p.1 x then some p.2 else d6 (C7 r) x)=some v:=h
   cases e:Nat.beq p.1 x with
   |true=>rw[e]at h;cases h;exact⟨rfl,hq⟩
   |false=>rw[e]at h;exact ih h
  |false=>
   rw[hq]at h
   have h:d6 (M8 p.1 (C7 r)) x=some v:=h
   rw[O3]at h
   cases e:Nat.beq p.1 x with
   |true=>rw[e]at h;exact nomatch h
   |false=>rw[e]at h;exact ih h
noncomputable def r7 (xs:List Nat) (m:Fr):Fr:=xs.foldl (λm x=>M8 x m) m
theorem C4 {xs:List Nat} {y:Nat} {v:V}:∀{m:Fr},d6 (r7 xs m) y=some v->y∉xs∧d6 m y=some v:=by
 induction xs with
 |nil=>exact λh=>⟨nofun,h⟩
 |cons x r ih=>
  intro m h
  have k:=ih (m:=M8 x m) h
  rw[O3]at k
  cases e:Nat.beq x y with
  |true=>rw[e]at k;exact nomatch k.2
  |false=>rw[e]at k;exact⟨λq=>(OW q).elim (λq=>by rw[q,Nat.beq_refl]at e;exact Bool.noConfusion e) k.1,k.2⟩
variable {d7:List Addr} {h':Heap}
section
theorem E9 {kd:Kd} {sc:Scope} {y:Str} {k:NameKind} {G:Prop} (h:C6 kd sc y=some k) (k1:(y,k)∈sc.names->G) (k2:(y,NameKind.free)∈sc.names->k=.cell->G):G:=by
 obtain⟨p,hp,e⟩:=List.mem_map.mp (mem_of_lookup (show _=some k from h))
 by_cases hc:(p.2 == NameKind.free&&(kd p.1 == some .cell))=true
 ·rw[Pp hc]at e
  have e2:p.2=.free:=beq_iff_eq.mp (Bool.and_eq_true_iff.mp hc).1
  cases e
  exact k2 (e2▸hp) rfl
 ·rw[Pq hc]at e
  exact k1 (e▸hp)
theorem bB {sc:Scope} {cl:List (Str×Addr)} {C:Addr} (hk:env.scope.kind=.function):(compEnvC sc cl C env).kindOf=C6 env.kindOf sc:=by
 funext y
 show(relabel sc env).names.lookup y=_
 unfold relabel C6
 rw[hk]
 congr 1
 refine List.map_congr_left λp J=>?_
 obtain⟨a,b⟩:=p
 simp
theorem E1 (c:G2 T W U env own m h) {sc:Scope} (hf:∀x∈sc.names,x.2=.free->env.kindOf x.1=some .cell):∀x∈sc.names,x.2=.free->∃c,env.cells.lookup x.1=some c:=λx hx hk=>
 match c.has x.1 (hf x hx hk)with|⟨ca,_,h1,_,_⟩=>⟨ca,h1⟩
theorem G2.sub (x:G2 T W U env own m h) (e:∀y v,d6 m' y=some v->d6 m y=some v):G2 T W U env own m' h:=⟨x.kind,x.glob,x.blt,x.Y0,λy v q=>x.loc y v (e y v q),x.ns,λy v q=>x.var y v (e y v q),x.has,x.own,x.code⟩
theorem FV.quiet {x:Nat} {v:V} {w:Value} (hq:Mine.quiet v=true) (f:FV T W U h own x v w):solid v=true∧eP T W U h v w:=by
 induction f with
 |pl _ _ g r=>exact⟨g,r⟩
 |_=>exact Bool.noConfusion hq
theorem vZ {kd:Kd} {xs:List Nat} {sc:Scope} (tk:E5 T P) (hs:cR T kd xs sc) {x:Nat} (hx:x∉xs) (q:f6 (C6 kd sc (T.nm x)) T6=true):(T.nm x,NameKind.free)∈sc.names:=by
 rcases Jx q with q|q|q
 ·exact E9 q (λh1=>(hs.own _ h1 rfl).elim (λe=>absurd e (tk.dot x)) λ⟨x',hx',e⟩=>absurd (tk.rR _ _ e▸hx') hx) λJ e=>nomatch e
 ·exact E9 q (λh1=>absurd rfl (hs.cell _ h1)) λh2 J=>h2
 ·exact E9 q id λJ e=>nomatch e
theorem G2.comp (tk:E5 T P) (c:G2 T W U env own m h) {xs:List Nat} {sc:Scope} {C:Addr} {ds:List Addr} (hs:cR T env.kindOf xs sc) (keep:∀a o,h.get? a=some o->h'.get? a=some o) (mm:Ms U d7 (k9 T W U) (k9 T (W.enter C ds) d7) (λJ=>False) h h') {f:Str->Option Value} (hn:h'.Ns C f):
 G2 T (W.enter C ds) d7 (compEnvC sc (v7 env.cells sc.names []) C env) [] (r7 xs (C7 m)) h':=
 have hk:=bB (sc:=sc) (cl:=v7 env.cells sc.names []) (C:=C) c.kind
 have ht:=E1 c hs.free
 {kind:=hs.kind
  glob:=c.glob
  blt:=c.blt
  Y0:=.head _
  loc:=λx v e=>c.loc x v (X3 (C4 e).2).1
  ns:=⟨f,hn⟩
  var:=λx v e q=>by
   have l:=X3 (C4 e).2
   have hf:=vZ tk hs (C4 e).1 (hk▸q)
   have hc:=hs.free _ hf rfl
   obtain⟨w,hd,fv⟩:=c.var x v l.1 (by rw[hc];rfl)
   refine⟨w,?_,.pl v w (fv.quiet l.2).1 ((fv.quiet l.2).2.ms mm)⟩
   induction hd with
   |loc _ k=>exact S9 k hc nofun
   |P0 ca k hc' o i=>exact .P0 ca ((Jx q).elim (λz=>by
    rw[hk]at z
    exact E9 z (λh1=>(hs.own _ h1 rfl).elim (λe=>absurd e (tk.dot x)) λ⟨x',hx',e'⟩=>absurd (tk.rR _ _ e'▸hx') (C4 e).1) λJ e=>nomatch e) id) ((ax ht hf).trans hc') (OS _ o) (D5 i (keep _))
  has:=λy q=>by
   rw[hk]at q
   have hf:(y,NameKind.free)∈sc.names:=E9 q (λh1=>absurd rfl (hs.cell _ h1)) λh2 J=>h2
   exact match c.has y (hs.free _ hf rfl)with|⟨ca,v,hc,o,i⟩=>⟨ca,v,(ax ht hf).trans hc,OS _ o,D5 i (keep _)⟩
  own:=λJ J q=>nomatch q
  code:=λPt q=>d0 (hk▸hs.lam) q}
end
variable {prog:Program} {w:World}
section
variable {R:Result->Shared->Prop}
theorem bz {elt target iter:Ex} {ifs:List Ex} {scope:Scope} {pos:Pos} {it acc:Value} {env:Env} (I:Nat->Shared->Prop)
 (turn:∀n s,I n s->wpAny (model prog w) A (pyNext it) (λr c5=>match r with
  |none=>R (.ok .next) c5
  |some v=>wpAny (model prog w) A (letOwnedTupleGo target it v) (λJ EC=>wpAny (model prog w) A (assign target env v) (λJ l3=>
   wpAny (model prog w) A (forIn ifs true λc r=>if r=true then do let ok←isTrue c env (eval c env);pure (ForInStep.yield ok)else pure (ForInStep.yield r)) (λok w9=>
    if ok=true then wpAny (model prog w) A (eval elt env) (λx aG=>
     wpAny (model prog w) A (call (.builtin "list.append") [acc,x]) (λJ uV=>∃m,m < n∧I m uV) (notedBy (model prog w) A env λe s'=>R (.error e) s') aG) (notedBy (model prog w) A env λe s'=>R (.error e) s') w9
    else∃m,m < n∧I m w9) (notedBy (model prog w) A env λe s'=>R (.error e) s') l3) (notedBy (model prog w) A env λe s'=>R (.error e) s') EC) (notedBy (model prog w) A env λe s'=>R (.error e) s') c5) (notedBy (model prog w) A env λe s'=>R (.error e) s') s)
 (n:Nat) (h:I n s):codeAny (model prog w) A (.compLoop (.ListComp elt [⟨target,iter,ifs,0⟩] scope pos) 0 it acc env) R s:=by
 refine codeAny_loop rfl I (λn s hI=>?_) n h
 show wpAny _ A ((compTurn (.ListComp elt [⟨target,iter,ifs,0⟩] scope pos) 0 it acc env).onRaise (λx=>do noteFrame x env;theTreesLotGoes x)) _ _ s
 refine wpAny_noted ?_
 rw[compTurn_list]
 refine OL (Pk (OL (wpAny_mono (turn n s hI) (λr c5 n6=>?_) λJ J h'=>h')))
 induction r with
 |none=>exact OM n6
 |some v=>
  refine OL (wpAny_mono n6 (λJ EC Ki=>?_) λJ J h'=>h')
  refine OL (wpAny_mono Ki (λJ l3 r3=>OL (wpAny_mono r3 (λok w9 T9=>?_) λJ J h'=>h')) λJ J h'=>h')
  induction ok with
  |false=>exact OM ⟨rfl,T9⟩
  |true=>
   exact OL (OL (wpAny_mono T9 (λx aG oK=>OL (wpAny_mono oK (λJ uV iA=>OM (OM ⟨rfl,iA⟩)) λJ J h'=>h')) λJ J h'=>h'))
end
variable {mc:Fr} {zs:List V} {ys:List Value} {xs:List Nat}
section
variable {m0:Fr} {D:Addr}
structure Acc (F:Fx T) (z:Zt) (D:Addr) (zs:List V) (ys:List Value):Prop where
 l:l8 F z D
 at_:z.s.heap.get? D=some (LCg.lst ys)
 r:E4 T z.W z.U z.s.heap zs ys
theorem su {u:V} {mu:Fr} {kd:Kd} (tx:qe T kd xs target) (e:jW xs u mc=some mu):∃m',jW xs u (r7 xs mc)=some m'∧(∀y,d6 m' y=d6 mu y)∧∀y v,d6 (r7 xs mc) y=some v->d6 mu y=some v:=by
 have b:∀{x y:Nat},Nat.beq x y=false->d6 (M8 x mc) y=d6 mc y:=λq=>(O3 ..).trans (by rw[q];rfl)
 induction tx with
 |one x p _ _=>
  cases e
  refine⟨_,rfl,λy=>?_,λy v k=>?_⟩
  ·rw[D0,D0]
   induction q:Nat.beq x y with
   |true=>rfl
   |false=>exact b q
  ·have d:=C4 k
   rw[D0,show Nat.beq x y=false by induction q:Nat.beq x y with|false=>rfl|true=>exact absurd (Pc q▸.head _) d.1]
   exact d.2
 |two x x' p q i r _ _ _ _=>
  refine a0 e λl el e=>d8 e λab eab e=>?_
  subst e
  refine⟨putN (putN (r7 [x,x'] mc) x ab.1) x' ab.2,by show(N1 u).bind _=_;rw[el,Option.bind_some,eab];rfl,λy=>?_,λy v k=>?_⟩
  ·rw[D0,D0,D0,D0]
   induction q:Nat.beq x' y with
   |true=>rfl
   |false=>induction q2:Nat.beq x y with
    |true=>rfl
    |false=>
     show d6 (M8 x' (M8 x mc)) y=d6 mc y
     rw[O3,q,O3,q2];rfl
  ·have d:=C4 k
   have n1:Nat.beq x y=false:=by induction q:Nat.beq x y with|false=>rfl|true=>exact absurd (Pc q▸.head _) d.1
   have n2:Nat.beq x' y=false:=by induction q:Nat.beq x' y with|false=>rfl|true=>exact absurd (Pc q▸.tail _ (.head _)) d.1
   rw[D0,D0,n1,n2]
   exact d.2
theorem Fs.Jl {m m':Fr} (f:Fs F z m Y) (e:∀y v,d6 m' y=some v->d6 m y=some v):Fs F z m' Y:=⟨⟨f.cx.rel,f.cx.fr.sub e,f.cx.ar⟩,f.st,f.out,f.hd⟩
theorem Acc.held {z':Zt} (a:Acc F z D zs ys) {m:Fr} (f:Fs (F.hold [(D,LCg.lst ys,true)] (zs.zip ys)) z' m Y):Acc F z' D zs ys:=
 have x:=f.hd.objs D _ true (.head _)
 ⟨⟨x.own rfl,x.nn,x.nc,a.l.new,a.l.out,a.l.held⟩,x.at_,eS a.r.length λv w q=>have y:=f.hd.vals v w (OQ _ q);⟨y.g,y.r⟩⟩
theorem jQ (tk:E5 T P) (hr:g7 T n r.ev) (ht:D8 T n r.tr) (rm:N7 F.A n) (f:Fs F z (r7 xs mc) Y) (a:Acc F z D zs ys) (hz:ys.length≤1000) (hs:∀u v,(u,v)∈Hs->(u,v)∈F.Hv) {u:V} {v:Value} {elt:X} {cond:Option X} {elt':Ex} {cond':Option Ex} {α:Type} {K:α->Hp->Prop} {X':Txt->Hp->Prop} {g:List V->Hp->R α} {Nx:Shared->Prop}
 (tx:qe T F.env.kindOf xs target) (y:Ll T Hs xs.length u v z.s.heap) (te:Tr T F.env.kindOf elt elt') (tc:Bn T F.env.kindOf cond cond') (h:((jT r mc elt xs cond u Y).bind g).c4 K X')
 (nx:∀z' c7 qs ys',Fs F z' (r7 xs mc) c7->Acc F z' D (zs++qs) ys'->ys'.length≤ys.length+1->(g qs c7).c4 K X'->Nx z'.s):
 wpAny (model T.prog T.w) F.A (assign target F.env v) (λJ l3=>
  wpAny (model T.prog T.w) F.A (forIn cond'.toList true λc r=>if r=true then do let ok←isTrue c F.env (PySem.eval c F.env);pure (ForInStep.yield ok)else pure (ForInStep.yield r)) (λok w9=>
   if ok=true then wpAny (model T.prog T.w) F.A (PySem.eval elt' F.env) (λx aG=>
    wpAny (model T.prog T.w) F.A (call (.builtin "list.append") [.ref D,x]) (λJ uV=>Nx uV) E aG) E w9
   else Nx w9) E l3) E z.s:=by
 have h:=R.d5.mp h
 refine a9 h λmu eb h=>?_
 obtain⟨m',eb',em,sub⟩:=su tx eb
 have z8:Fs (F.hold [(D,LCg.lst ys,true)] (zs.zip ys)) z (r7 xs mc) Y:=f.holds (λb o bb q=>by cases OX q;exact a.l.Fe f a.at_) λv w q=>have k:=W9 a.r v w q;⟨k.1,k.2⟩
 refine lT (F:=F.hold [(D,LCg.lst ys,true)] (zs.zip ys)) tk z8 (λu v q=>OS _ (hs u v q)) tx y eb' λw9 Q2=>?_
 have Q2:=Q2.congr λy=>(em y).symm
 have go:∀b FK z2,Fs (F.hold [(D,LCg.lst ys,true)] (zs.zip ys)) z2 mu FK->(bif b then(r.ev mu elt FK).z6.bind λy Y=>(b8 76 (freeze y) Y).bind λy Y=>.ok [y] Y else .ok [] FK:R (List V)).c4 (λa Y=>(g a Y).c4 K X') X'->
  if b=true then wpAny (model T.prog T.w) F.A (PySem.eval elt' F.env) (λx aG=>wpAny (model T.prog T.w) F.A (call (.builtin "list.append") [.ref D,x]) (λJ uV=>Nx uV) E aG) E z2.s else Nx z2.s:=λb FK z2 f h=>by
  induction b with
  |false=>exact nx z2 FK [] ys (f.y7.Jl sub) (by rw[Pl];exact a.held f) (Nat.le_succ _) h
  |true=>
   refine(Pp rfl).mpr (HO hr (f.mY rm) te h λyv Oa w s3 Bs o hw J h=>a9 h λyv' ef h=>?_)
   have S5:=f.step o
   have lV:=a.held S5
   refine append_at (hsz:=by rw[Ph];exact bp hz) lV.at_ λiA bl ub=>?_
   have ub:iA.get? D=some (LCg.lst (ys++[w])):=by rw[ub,LCg.lst_snoc]
   have MQ:=S5.y7.cU (h':=iA) (t:=s3.toks) (D:=λb=>b=D) (λb e=>(show b=D from e)▸lV.l) (SameBut.off bl) λb e=>(show b=D from e)▸⟨_,ub⟩
   have ms:Ms Bs Bs (k9 T z2.W Bs) (k9 T z2.W Bs) (λb=>b=D) s3.heap iA:=⟨λJ J e=>e,SameBut.off bl,λb J J e=>.inr (.inr (.inl ((show b=D from e)▸lV.l.C9))),λJ J J q=>q⟩
   have fz:=C2 ef hw
   exact nx _ Oa [yv'] (ys++[w]) (MQ.Jl sub) ⟨lV.l.ix rfl rfl,ub,(lV.r.ms ms).append (.cons _ _ _ _ fz.1 (fz.2.ms ms) .nil)⟩ (by rw[List.length_append];exact Pw _) h
 have h:=R.d5.mp h
 induction tc with
 |none=>exact wpAny_tests_nil (go true Y _ Q2 h)
 |some cc cc' tcc=>exact wpAny_tests_one (ht (Q2.mY rm) tcc (R.c4.mono (R.J5 h) (λb FK h s2 Oc o=>go b FK _ (Q2.step o) h) λJ J x=>x.elim))
end
section
variable {D:Addr} {elt:X} {cond:Option X} {elt' iter:Ex} {cond':Option Ex} {sc:Scope} {pos:Pos} {K:List V->Hp->Prop} {X':Txt->Hp->Prop} {Rz:Result->Shared->Prop}
inductive IP (F:Fx T) (Hs:List (V×Value)) (D:Addr) (fp wr:List Addr) (St:Nat->Heap->Prop) (items:List V) (m0:Fr) (Kp:List V->Hp->List V->Prop) (k:Nat) (s':Shared):Prop
 |mk (i:Nat) (z:Zt) (Y:Hp) (zs:List V) (ys:List Value) (e:z.s=s') (ek:k=items.length+1 - i) (hi:i≤items.length) (hy:ys.length≤i) (f:Fs (F.hold [] Hs) z m0 Y) (w:Walk F z fp wr) (a:Acc F z D zs ys) (st:St i s'.heap) (h:Kp zs Y (items.drop i))
theorem Acc.hold {H:List (Addr×Obj×Bool)} {Hv:List (V×Value)} (a:Acc F z D zs ys) (n:∀p,p∈H->p.1≠D):Acc (F.hold H Hv) z D zs ys:=⟨a.l.hold n,a.at_,a.r⟩
theorem Acc.y7 {H:List (Addr×Obj×Bool)} {Hv:List (V×Value)} (a:Acc (F.hold H Hv) z D zs ys):Acc F z D zs ys:=⟨⟨a.l.C9,a.l.OK,a.l.cell,a.l.new,a.l.out,λo b q=>a.l.held o b (OS _ q)⟩,a.at_,a.r⟩
theorem Acc.turn {D':Addr->Prop} {h':Heap} {t:Nat} (a:Acc F z D zs ys) (hD:∀b,D' b->b∈z.W.own) (keep:Off D' z.s.heap h') (nD:¬D' D):Acc F (z.hp h' t) D zs ys:=
 ⟨a.l.ix rfl rfl,keep _ _ a.at_ nD,a.r.ms (⟨λJ J e=>e,keep,λb J q=>λk=>.inr (.inr (.inl (hD b k))),λJ J J q=>q⟩:Ms z.U z.U (k9 T z.W z.U) (k9 T z.W z.U) D' z.s.heap h')⟩
theorem AD (tk:E5 T P) (hr:g7 T n r.ev) (ht:D8 T n r.tr) (rm:N7 F.A n) {items:List V} {I:Addr} {fp wr:List Addr} {Pt Md:Nat->Value->Heap->Prop} {St:Nat->Heap->Prop} (tx:qe T F.env.kindOf xs target) (te:Tr T F.env.kindOf elt elt') (tc:Bn T F.env.kindOf cond cond')
 (L:Bq T F.A target I fp wr items.length Pt Md St) (hP:∀i v h,Pt i v h->∃u,items[i]? =some u∧Ll T Hs xs.length u v h) (hlen:items.length≤1000) (hw:D∉wr) (f:Fs (F.hold [] Hs) z (r7 xs mc) Y) (w:Walk F z fp wr) (a:Acc F z D [] []) (st:St 0 z.s.heap)
 (h:(bA r mc elt xs cond items Y).c4 K X') (Y1:∀z' c7 zs ys,Fs F z' (r7 xs mc) c7->Acc F z' D zs ys->K zs c7->Rz (.ok .next) z'.s):
 codeAny (model T.prog T.w) F.A (.compLoop (.ListComp elt' [⟨target,iter,cond'.toList,0⟩] sc pos) 0 (.ref I) (.ref D) F.env) Rz z.s:=by
 refine bz (IP F Hs D fp wr St items (r7 xs mc) λzs Y l=>(bA r mc elt xs cond l Y).c4 (λq c7=>K (zs++q) c7) X') (λk s' c=>?_) _ ⟨0,z,Y,[],[],rfl,rfl,Nat.zero_le _,Pw _,f,w,a,st,h⟩
 obtain⟨i,y,τ,zs,ys,e,ek,hi,hy,f,w,a,st,h⟩:=c
 subst e
 by_cases hlt:i < items.length
 ·refine L.k.item i _ _ _ hlt st λv n6 E8 md ju=>?_
  have lo:∀b,b∈wr->l8 (F.hold [] Hs) y b:=λb hb=>(w.l b hb).hold λJ q=>nomatch q
  have z8:=f.cU (h':=n6) (t:=E8) (D:=λb=>b∈wr) lo (λa ob e q=>ju a ob q e) λb hb=>L.LR i v n6 md b hb
  have Nf:=a.turn (h':=n6) (t:=E8) (D':=λb=>b∈wr) (λb hb=>(w.l b hb).C9) (λa ob e q=>ju a ob q e) hw
  refine L.k.go i v _ _ _ md λr3 hp fg jt=>?_
  have B9:Fs (F.hold [] Hs) (y.hp r3 E8) (r7 xs mc) τ:=z8.cU (h':=r3) (t:=E8) (D:=λb=>b∈wr) (λb hb=>(lo b hb).ix rfl rfl) (λa ob e q=>jt a ob q e) λb hb=>L.ex _ _ fg b hb
  have Nd:Acc F (y.hp r3 E8) D zs ys:=Nf.turn (h':=r3) (t:=E8) (D':=λb=>b∈wr) (λb hb=>(w.l b hb).C9) (λa ob e q=>jt a ob q e) hw
  obtain⟨u,hu,hyl⟩:=hP i v r3 hp
  have hd:items.drop i=u::items.drop (i+1):=(List.drop_eq_getElem_cons hlt).trans (OY (· ::_) (ON ((Pb hlt).symm.trans hu)))
  rw[hd]at h
  have l₂:∀b,b∈wr->l8 F (y.hp r3 E8) b:=λb hb=>(w.l b hb).ix rfl rfl
  have jI:∀b,b∈fp->b∉wr->¬k9 T y.W y.U b∧∃o,r3.get? b=some o:=λb hb hw=>(w.fp b hb).elim (λq=>absurd q hw) λq=>⟨q.1,q.2.elim λo e=>⟨o,jt b o hw (ju b o hw e)⟩⟩
  have nw:∀{c},c∈fp.filter (λb=>!(wr.contains b))->c∈fp∧c∉wr:=λq=>⟨(List.mem_filter.mp q).1,λk=>by have c2:=(List.mem_filter.mp q).2;rw[List.contains_iff_mem.mpr k]at c2;exact Bool.noConfusion c2⟩
  have nD:∀{c},c∈fp.filter (λb=>!(wr.contains b))->c≠D:=λq e=>(jI _ (nw q).1 (nw q).2).1 (.inr (.inr (.inl (e▸a.l.C9))))
  have g:Fs (F.hold (y8 r3 true wr++y8 r3 false (fp.filter λb=>!(wr.contains b))) Hs) (y.hp r3 E8) (r7 xs mc) τ:=Fs.bo B9 λa o bb q=>(Px q).elim (λq=>by
   obtain⟨q1,q2,rfl⟩:=w8.mp q
   exact(l₂ a q1).Fe B9.y7 q2) λq=>by
   obtain⟨q1,q2,rfl⟩:=w8.mp q
   exact B9.y7.NP (jI a (nw q1).1 (nw q1).2).1 q2
  have Nc:Acc (F.hold (y8 r3 true wr++y8 r3 false (fp.filter λb=>!(wr.contains b))) Hs) (y.hp r3 E8) D zs ys:=Nd.hold λp q=>(Px q).elim (λq e=>hw (e▸(w8 (a:=p.1) (o:=p.2.1) (b':=p.2.2)|>.mp q).1)) λq=>nD (w8 (a:=p.1) (o:=p.2.1) (b':=p.2.2)|>.mp q).1
  refine jQ (F:=F.hold (y8 r3 true wr++y8 r3 false (fp.filter λb=>!(wr.contains b))) Hs) tk hr ht rm g Nc (OV hy (OV hi hlen)) (λu v q=>OQ _ q) tx hyl te tc h λeQ n9 qs ys' S5 lV hl4 h=>?_
  have Y0:∀{c},c∈wr->∃o,r3.get? c=some o∧sM (F.hold (y8 r3 true wr++y8 r3 false (fp.filter λb=>!(wr.contains b))) Hs) eQ c o true:=λ{c} hc=>(L.ex _ _ fg c hc).elim λo e=>⟨o,e,S5.hd.objs c o true (OQ _ (OQ _ (w8.mpr ⟨hc,e,rfl⟩)))⟩
  have inF:∀{c},c∈fp->c∉wr->∃o,r3.get? c=some o∧sM (F.hold (y8 r3 true wr++y8 r3 false (fp.filter λb=>!(wr.contains b))) Hs) eQ c o false:=λ{c} hc hw=>(jI c hc hw).2.elim λo e=>⟨o,e,S5.hd.objs c o false (OQ _ (OS _ (w8.mpr ⟨List.mem_filter.mpr ⟨hc,by induction q:wr.contains c with|false=>rfl|true=>exact absurd (List.contains_iff_mem.mp q) hw⟩,e,rfl⟩)))⟩
  exact⟨items.length+1 - (i+1),ek.symm▸uj hlt,i+1,eQ,n9,zs++qs,ys',rfl,rfl,hlt,OV hl4 (Nat.succ_le_succ hy),S5.N8 (H':=[]) (λJ q=>nomatch q) λJ q=>q,⟨λc hc=>(Y0 hc).elim λo q=>⟨q.2.own rfl,q.2.nn,q.2.nc,(w.l c hc).new,(w.l c hc).out,(w.l c hc).held⟩,
   λc hc=>Classical.byCases (λhw:c∈wr=>.inl hw) λhw=>.inr ((inF hc hw).elim λo q=>⟨q.2.nb rfl,o,q.2.at_⟩)⟩,lV.y7,L.k.frame _ _ _ fg λc hc o e=>Classical.byCases (λhw:c∈wr=>(Y0 hw).elim λo' q=>ON (q.1.symm.trans e)▸q.2.at_) λhw=>(inF hc hw).elim λo' q=>ON (q.1.symm.trans e)▸q.2.at_,
   R.c4.mono (R.d5.mp h) (λl NZ k4=>(List.append_assoc zs qs l).symm▸k4) λJ J x=>x⟩
 ·have hin:i=items.length:=Nat.le_antisymm hi (Pr hlt)
  subst hin
  refine L.k.done _ _ _ st λn6 E8 kp=>?_
  have z8:Fs F _ (r7 xs mc) τ:=f.y7.je (h':=n6) (t:=E8) (ds:=wr) w.l λa ob e q=>kp a ob q e
  rw[List.drop_length]at h
  have h:K (zs++[]) τ:=h
  rw[Pl]at h
  have ms:Ms y.U y.U (k9 T y.W y.U) (k9 T (y.W.less wr) y.U) (λb=>b∈wr) y.s.heap n6:=⟨λJ J e=>e,λa ob e q=>kp a ob q e,λb J J k=>.inr (.inr (.inl (w.l b k).C9)),λb J J q=>q.imp id λq=>q.imp id λq=>q.imp (λq=>(F0.mp q).1) id⟩
  exact Y1 _ τ zs ys z8 ⟨⟨F0.mpr ⟨a.l.C9,hw⟩,a.l.OK,a.l.cell,a.l.new,a.l.out,a.l.held⟩,kp D _ hw a.at_,a.r.ms ms⟩ h
inductive Lx (F:Fx T) (l:Nat) (a I D:Addr) (m0:Fr) (Kp:Nat->Nat->List V->Hp->Prop) (k:Nat) (s':Shared):Prop
 |mk (j:Nat) (z:Zt) (Y:Hp) (zs:List V) (ys:List Value) (e:z.s=s') (ej:j+k=64) (hy:ys.length≤j) (f:Fs (F.hold [] [(.loc l,.ref a)]) z m0 Y) (w:l8 F z I) (c:Acc F z D zs ys) (st:s'.heap.IsListIter I a j) (h:Kp k j zs Y)
theorem AE (tk:E5 T P) (hr:g7 T n r.ev) (ht:D8 T n r.tr) (rm:N7 F.A n) {l:Nat} {a I:Addr} (tx:qe T F.env.kindOf xs target) (te:Tr T F.env.kindOf elt elt') (tc:Bn T F.env.kindOf cond cond') (hw:I≠D) (f:Fs (F.hold [] [(.loc l,.ref a)]) z (r7 xs mc) Y) (w:l8 F z I) (c:Acc F z D [] []) (st:z.s.heap.IsListIter I a 0)
 (h:(jU r mc elt xs cond l 64 0 Y).c4 K X') (Y1:∀z' c7 zs ys,Fs F z' (r7 xs mc) c7->Acc F z' D zs ys->K zs c7->Rz (.ok .next) z'.s):
 codeAny (model T.prog T.w) F.A (.compLoop (.ListComp elt' [⟨target,iter,cond'.toList,0⟩] sc pos) 0 (.ref I) (.ref D) F.env) Rz z.s:=by
 refine bz (Lx F l a I D (r7 xs mc) λk j zs Y=>(jU r mc elt xs cond l k j Y).c4 (λq c7=>K (zs++q) c7) X') (λk s' c=>?_) _ ⟨0,z,Y,[],[],rfl,rfl,Pw _,f,w,c,st,h⟩
 obtain⟨j,y,τ,zs,ys,e,ej,hy,f,w,c,st,h⟩:=c
 subst e
 induction k with
 |zero=>exact h.elim
 |succ k=>
  have hla:y.U[l]? =some a:=VR.A9 (G:=λv=>v=Value.ref a->y.U[l]? =some a) (bad:=k9 T y.W y.U) (f7:=k9 T y.W y.U) (h:=y.s.heap) (.mk _ _ (f.hd.vals (.loc l) (.ref a) (.head _)).r) (λa' e q=>Value.ref.inj q▸e) rfl
  refine a9 h λus eu h=>match bf f.cx.rel hla eu with|⟨ws,hls,qs⟩=>cg (K:=λz=>R.c4 z _ _) h (λu eu h=>?_) λeu h=>?_
  ·refine qs.at eu λv hv g rv=>?_
   refine wpAny_pyNext_list_item st hls.list (x:=v) ((List.getElem?_toArray ..).trans hv) λn6 aH sb=>?_
   have Ac:Fs (F.hold [] [(u,v),(.loc l,.ref a)]) y (r7 xs mc) τ:=⟨f.cx,⟨f.st.v5,f.st.inj,f.st.aR,f.st.O4,f.st.cD,f.st.aw,f.st.old⟩,f.out,⟨λa o b q=>have x:=f.hd.objs a o b q;⟨x.at_,x.nm,x.nn,x.nc,x.own,x.nb⟩,λv' w' q=>(OW q).elim (λe=>by cases e;exact⟨g,rv⟩) λq=>have x:=f.hd.vals v' w' q;⟨x.g,x.r⟩⟩⟩
   have z8:Fs (F.hold [] [(u,v),(.loc l,.ref a)]) (y.hp n6 y.s.toks) (r7 xs mc) τ:=Ac.cU (h':=n6) (t:=y.s.toks) (D:=λb=>b=I) (λb e=>(show b=I from e)▸w.hold λJ q=>nomatch q) (SameBut.off sb) λb e=>(show b=I from e)▸P6 aH
   have c₁:Acc F (y.hp n6 y.s.toks) D zs ys:=c.turn (D':=λb=>b=I) (λb e=>(show b=I from e)▸w.C9) (SameBut.off sb) (Ne.symm hw)
   obtain⟨oI,eI⟩:=P6 aH
   have FL:l8 F (y.hp n6 y.s.toks) I:=w.ix rfl rfl
   have B9:Fs (F.hold [(I,oI,true)] [(u,v),(.loc l,.ref a)]) (y.hp n6 y.s.toks) (r7 xs mc) τ:=Fs.bo z8 λa o bb q=>by cases OX q;exact FL.Fe z8.y7 eI
   refine letGo_listiter aH ?_
   refine jQ (F:=F.hold [(I,oI,true)] [(u,v),(.loc l,.ref a)]) (Hs:=[(u,v)]) tk hr ht rm B9 (c₁.hold λp q=>by rw[OX q];exact hw) (OV hy (OV (Nat.le_add_right j (k+1)) (OV (Nat.le_of_eq ej) (by decide)))) (λu' v' q=>(OX q)▸.head _) tx (.one (.held (.head _))) te tc h λeQ n9 qs ys' S5 lV hl4 h=>?_
   have x:=S5.hd.objs I oI true (.head _)
   exact⟨k,Nat.lt_succ_self k,j+1,eQ,n9,zs++qs,ys',rfl,(by rw[Nat.add_assoc,Nat.add_comm 1];exact ej),OV hl4 (Nat.succ_le_succ hy),S5.N8 (H':=[]) (Hv':=[(.loc l,.ref a)]) (λJ q=>nomatch q) λJ q=>.tail _ q,⟨x.own rfl,x.nn,x.nc,w.new,w.out,w.held⟩,lV.y7,(match aH with|⟨o,e,r⟩=>⟨o,ON (eI.symm.trans e)▸x.at_,r⟩),
    R.c4.mono (R.d5.mp h) (λl NZ k4=>(List.append_assoc zs qs l).symm▸k4) λJ J x=>x⟩
  ·have hw':ws.toArray[j]? =none:=(List.getElem?_toArray ..).trans (List.getElem?_eq_none (qs.length.symm▸List.getElem?_eq_none_iff.mp eu))
   refine wpAny_pyNext_list_end f.cx.ar.handled st hls.list hw' λn6 kp=>?_
   have z8:=f.y7.je (h':=n6) (t:=y.s.toks) (ds:=[I]) (λb hb=>(OX hb)▸w) λa ob e q=>kp a ob (λz=>q (List.mem_singleton.mpr z)) e
   have h:K (zs++[]) τ:=h
   rw[Pl]at h
   have ms:Ms y.U y.U (k9 T y.W y.U) (k9 T (y.W.less [I]) y.U) (λb=>b∈[I]) y.s.heap n6:=⟨λJ J e=>e,λa ob e q=>kp a ob (λz=>q (List.mem_singleton.mpr z)) e,λb J J k=>.inr (.inr (.inl ((OX k)▸w.C9))),λb J J q=>q.imp id λq=>q.imp id λq=>q.imp (λq=>(F0.mp q).1) id⟩
   exact Y1 _ τ zs ys z8 ⟨⟨F0.mpr ⟨c.l.C9,λq=>hw (OX q).symm⟩,c.l.OK,c.l.cell,c.l.new,c.l.out,c.l.held⟩,kp D _ (Ne.symm hw) c.at_,c.r.ms ms⟩ h
end
variable {s':Shared} {c7:Hp} {C:Addr}
section
variable {s3:Shared} {D:Addr}
theorem jR {e:Ex} {it:Value} {sc:Scope} {cl:List (Str×Addr)} {RR:Value->Addr->Result->Shared->Prop} (hk:sc.kind=.function) (hcell:∀x∈sc.names,x.2≠.cell)
 (kk:∀D C h4 tk f,(∀b o,s3.heap.get? b=some o->h4.get? b=some o)->s3.heap.get? D=none->s3.heap.get? C=none->D≠C->h4.get? D=some (LCg.lst [])->h4.Ns C f->
  codeAny (model T.prog T.w) A (.compStart e 0 it (.ref D) (compEnvC sc cl C env)) (RR (.ref D) C) {s3 with heap:=h4,toks:=tk}):
 wpAny (model T.prog T.w) A (newList []) (λacc w9=>wpAny (model T.prog T.w) A (newFunctionEnv sc env.globals cl [] env.qual none .none (some env)) (λcenv aG=>
  codeAny (model T.prog T.w) A (.compStart e 0 it acc {cenv with scope:=relabel sc env}) (RR acc cenv.locals) aG) E w9) E s3:=by
 refine wpAny_newObj_type (wpAny_newFunctionEnv hcell (λy hy=>absurd hy List.not_mem_nil) (λn6 rI ll=>?_) hk)
 dsimp only at rI ll⊢
 generalize hH2:s3.heap.push {cls:=.type "list",dict:=none,data:=.seq ([]:List Value).toArray}=H2 at rI ll⊢
 have hC:H2.objs.size=s3.heap.objs.size+1:=by rw[←hH2,Heap.size_push]
 have hDC:s3.heap.objs.size≠H2.objs.size:=by rw[hC];exact Nat.ne_of_lt (Nat.lt_succ_self _)
 refine kk s3.heap.objs.size H2.objs.size n6 _ _ (λb o e=>ll.extBut b o ?_ (OT _ (hH2▸OT _ e))) (none_at_size _) ?_ hDC (ll.extBut _ _ hDC (OT _ (hH2▸OU _ rfl))) rI
 ·rw[hC];exact Nat.ne_of_lt (Nat.lt_succ_of_lt (Pu e))
 ·rw[hC];exact Heap.get?_none_of_le (Nat.le_succ _)
inductive sO (T:i7) (W:r9) (U:List Addr) (s:Shared) (zs:List V) (c7:Hp) (D C:Addr) (s':Shared):Prop
 |mk (d7:List Addr) (ys:List Value) (mC:Str->Option Value) (o:i4 T W U s c7 d7 s') (rel:d9 T (W.add [D,C]) d7 c7 s'.heap) (dc:D≠C) (dn:s.heap.get? D=none) (cn:s.heap.get? C=none) (hl:R6 s'.heap D ys) (q:E4 T (W.add [D,C]) d7 s'.heap zs ys) (hn:s'.heap.Ns C mC)
theorem In.refl:In W W s:=⟨λJ h=>h,λJ h=>h,λJ h=>.inl h,λJ h=>.inl h⟩
noncomputable abbrev BA (T:i7) (A:Around) (sc:Scope) (C:Addr) (env:Env) (W:r9) (U:List Addr) (s:Shared):Fx T:=⟨A,compEnvC sc (v7 env.cells sc.names []) C env,W,U,s,[],[]⟩
structure Lz (T:i7) (A:Around) (sc:Scope) (C D:Addr) (env:Env) (W:r9) (U:List Addr) (s:Shared) (fp wr:List Addr) (Hs:List (V×Value)) (m0:Fr) (c8:List Addr) (c9:Hp) (aG:Shared):Prop where
 f:Fs ((BA T A sc C env W U s).hold [] Hs) ⟨W.enter C (D::wr),[],c8,aG⟩ m0 c9
 w:Walk (BA T A sc C env W U s) ⟨W.enter C (D::wr),[],c8,aG⟩ fp wr
 a:Acc (BA T A sc C env W U s) ⟨W.enter C (D::wr),[],c8,aG⟩ D [] []
 nw:D∉wr
theorem dq (tk:E5 T P) (c:Cx T W n A env own m U Y s) {xs:List Nat} {sc:Scope} (hs:cR T env.kindOf xs sc) {c5:Shared} {c8:List Addr} {c9:Hp} {fp wr:List Addr} {h3 h4:Heap} {t3 t4:Nat} {f:Str->Option Value} (o:i4 T W U s c9 c8 c5) (kp3:∀a ob,c5.heap.get? a=some ob->h3.get? a=some ob)
 (hw:∀b,b∈wr->c5.heap.get? b=none) (hw3:∀b,b∈wr->∃o,h3.get? b=some o) (hfp:∀b,b∈fp->b∈wr∨(¬k9 T W c8 b∧∃o,c5.heap.get? b=some o)) (kp:∀b ob,h3.get? b=some ob->h4.get? b=some ob) (dn:h3.get? D=none) (cn:h3.get? C=none) (dc:D≠C) (hD:h4.get? D=some (LCg.lst [])) (hC:h4.Ns C f)
 (hHs:∀u v,(u,v)∈Hs->solid u=true∧eP T W c8 c5.heap u v):Lz T A sc C D env W U s fp wr Hs (r7 xs (C7 m)) c8 c9 {c5 with heap:=h4,toks:=t4}:=by
 have back:∀{a},h3.get? a=none->c5.heap.get? a=none:=λ{a} e=>by
  induction q:c5.heap.get? a with
  |none=>rfl
  |some ob=>exact d0 e (kp3 a ob q)
 have ent:dw c5.heap h4 C (D::wr):=⟨λa ob e=>kp a ob (kp3 a ob e),back cn,(H6 hC).elim λob e=>⟨ob,e.1⟩,λd hd=>(OW hd).elim (λe=>e▸back dn) (hw d),λd hd=>(OW hd).elim (λe=>e▸⟨_,hD⟩) λhd=>(hw3 d hd).elim λob e=>⟨ob,kp d ob e⟩,
  λq=>(OW q).elim (λq=>dc q.symm) λq=>(hw3 C q).elim λob e=>d0 cn e⟩
 have c₁:=c.mv o
 have ms:Ms c8 c8 (k9 T W c8) (k9 T (W.enter C (D::wr)) c8) (λJ=>False) c5.heap h4:=o.rel.T3 (λJ q=>ent.bad q) (Off.of_keeps ent.keep) λJ q=>q.elim
 have cl:∀{y ca},(v7 env.cells sc.names []).lookup y=some ca->ca∈W.own:=λhc=>by
  have k:=gV (E1 c.fr hs.free) hc
  exact match c.fr.has _ (hs.free _ k.1 rfl)with|⟨ca',_,h1,ho,_⟩=>ON (h1.symm.trans k.2)▸ho
 have old:∀{a},a∈W.own->s.heap.get? a≠none:=λha e=>(c.rel.o5.own _ ha).ex.elim λob e'=>d0 e e'
 have loose:∀{b},b∈D::wr->l8 (BA T A sc C env W U s) ⟨W.enter C (D::wr),[],c8,{c5 with heap:=h4,toks:=t4}⟩ b:=λ{b} hb=>
  have new:=o.ext.since (ent.wD b hb)
  ⟨OQ _ hb,(λJ q=>nomatch q),λy q=>old (cl q) new,new,λq=>old q new,(λJ J q=>nomatch q)⟩
 have st:St (BA T A sc C env W U s) (W.enter C (D::wr)) []:=⟨In.refl.trans (In.enter ent) λJ=>o.ext.since,(λJ J J q=>nomatch q),(λJ J q=>nomatch q),o.ext.since ent.O4,(λJ J J J q=>nomatch q),λy ca q=>OS _ (cl q),λa ha=>(c.rel.o5.own a ha).ex⟩
 have Ac:Fs (BA T A sc C env W U s) ⟨W.enter C (D::wr),[],c8,{c5 with heap:=h4,toks:=t4}⟩ (r7 xs (C7 m)) c9:=
  ⟨⟨o.rel.enter ent,G2.comp tk c₁.fr hs ent.keep ms hC,(c₁.le (Nat.zero_le n)).ar.mv (λa q=>.tail _ q) (Off.of_keeps (S:=λJ=>False) ent.keep) λJ J q=>q.elim⟩,st,o.trans (i4.keeps (t:=t4) o.rel ent.keep),⟨(λJ J J q=>nomatch q),(λJ J q=>nomatch q)⟩⟩
 exact⟨Ac.holds (H:=[]) (λJ J J q=>nomatch q) λu v q=>⟨(hHs u v q).1,(hHs u v q).2.ms ms⟩,⟨λb hb=>loose (.tail _ hb),λb hb=>(hfp b hb).imp id λq=>⟨λk=>(ent.bad k).elim q.1 λk=>q.2.elim λob e=>d0 k e,q.2.elim λob e=>⟨ob,ent.keep b ob e⟩⟩⟩,⟨loose (.head _),hD,.nil⟩,λq=>(hw3 D q).elim λob e=>d0 dn e⟩
theorem dr (c:d9 T W U Y s.heap) {sc:Scope} {z:Zt} {m0:Fr} (cn:s.heap.get? C=none) (dc:D≠C) (f:Fs (BA T A sc C env W U s) z m0 c7) (a:Acc (BA T A sc C env W U s) z D zs ys):sO T W U s zs c7 D C z.s:=by
 have bb:∀b,k9 T (W.add [D,C]) z.U b->k9 T z.W z.U b:=λb q=>(R1 q).elim (λq=>(OW q).elim (λq=>.inr (.inr (.inl (q▸a.l.C9)))) λq=>.inr (.inl ((OX q)▸f.cx.fr.Y0))) f.st.v5.bad
 have ms:=f.cx.rel.T3 (S:=λJ=>False) (h':=z.s.heap) (λb q=>.inl (bb b q)) (Off.refl _ _) λJ q=>q.elim
 have fC:=f.cx.rel.o5.l6 C f.cx.fr.Y0
 have mv:∀{b},A7 T (W.add [D,C]) z.U b->A7 T z.W z.U b:=λq=>q.imp id λq=>q.imp (f.st.v5.l6 _) id
 have rel:d9 T (W.add [D,C]) z.U c7 z.s.heap:=f.cx.rel.move (S:=λJ=>False) (λb q=>.inl (bb b q)) (Off.refl _ _) (λJ q=>q.elim)
  ⟨λb hb=>(Px hb).elim (λq=>(OW q).elim (λq=>(show b=D from q).symm▸(⟨λk=>(f.cx.rel.o5.own D a.l.C9).nm (mv k),_,a.at_⟩:Bp T (W.add [D,C]) z.U z.s.heap D)) λq=>(OX q).symm▸(⟨λk=>k.elim fC.nr λk=>k.elim (λk=>(c.o5.l6 C k).ex.elim λo e=>d0 cn e) fC.nt,fC.ex⟩:Bp T (W.add [D,C]) z.U z.s.heap C))
   λq=>⟨λk=>(f.cx.rel.o5.own b (f.st.v5.own b q)).nm (mv k),(f.cx.rel.o5.own b (f.st.v5.own b q)).ex⟩,λb hb=>f.cx.rel.o5.l6 b (f.st.v5.l6 b hb)⟩
 exact f.cx.fr.ns.elim λmC hn=>.mk z.U ys mC f.out rel dc a.l.new cn ⟨_,a.at_⟩ (a.r.ms ms) hn
theorem jS (tm:TM T P) (hr:g7 T n r.ev) (ht:D8 T n r.tr) (c:Cx T W n A env own m U Y s) {xs:List Nat} {src:mK} {it:List X} {elt:X} {cond:Option X} {elt' it':Ex} {cond':Option Ex} {sc:Scope} {pos:Pos} {K:List V->Hp->Prop} {X':Txt->Hp->Prop} {Q:Value->Shared->Prop} {use:Option (Value->Sem Unit)}
 (t:bJ T env.kindOf src it it') (tx:qe T (C6 env.kindOf sc) xs target) (te:Tr T (C6 env.kindOf sc) elt elt') (tc:Bn T (C6 env.kindOf sc) cond cond') (hs:cR T env.kindOf xs sc)
 (h:((m7 r m it Y).z6.bind λvs Y=>px r m elt xs cond src vs Y).c4 K X')
 (Y1:∀zs c7 D C s',K zs c7->sO T W U s zs c7 D C s'->compPost (model T.prog T.w) A E use Q (.ref D) C (.ok .next) s'):
 wpAny (model T.prog T.w) A (comprehension (.ListComp elt' [⟨target,it',cond'.toList,0⟩] sc pos) sc env (firstIterPos [⟨target,it',cond'.toList,0⟩] pos) (newList []) (firstAsync [⟨target,it',cond'.toList,0⟩]) (firstIter [⟨target,it',cond'.toList,0⟩] env) use) Q E s:=by
 have hks:∀{C:Addr},(compEnvC sc (v7 env.cells sc.names []) C env).kindOf=C6 env.kindOf sc:=bB c.fr.kind
 refine wpAny_comprehension_free rfl (nF t env) (Z1 (E1 c.fr hs.free)) hs.kind (λx hx hl=>hs.locals x hx hl) ?_
 show wpAny _ A (eval it' env) _ _ _
 have rm:N7 A n:=⟨c.ar.depth,c.ar.units⟩
 refine yl tm hr c t tx (R.d5.mp h) (λitems c9 c5 c8 x l3 o kr h=>kr _ _ λitv s3 rd=>q8 h λhlen h=>?_) λl c9 c5 c8 a o ha h=>q8 h λJ h=>?_
 ·induction rd with
  |mk I h3 t3 fp wr Pt Md St Hs q=>
   refine jR (RR:=compPost (model T.prog T.w) A E use Q) hs.kind hs.cell λD C h4 tk f kp dn cn dc hD hC=>?_
   have op:=dq (t3:=t3) (t4:=tk) tm.toE5 c hs o q.kp q.new (q.L.ex _ _ q.st) q.fp kp dn cn dc hD hC q.hs
   have st4:St 0 h4:=q.L.k.frame _ _ _ q.st λb J ob e=>kp b ob e
   have cn':s.heap.get? C=none:=op.f.st.O4
   have loop:=AD (F:=BA T A sc C env W U s) (iter:=it') (sc:=sc) (pos:=pos) (K:=K) (Rz:=compPost (model T.prog T.w) A E use Q (.ref D) C) tm.toE5 hr ht rm (by rw[hks];exact tx) (by rw[hks];exact te) (by rw[hks];exact tc) q.L q.it (OO hlen) op.nw op.f op.w op.a st4 h λz' c7 zs ys f a k=>Y1 zs c7 D C _ k (dr c.rel cn' dc f a)
   exact codeAny_compStart_list loop (q.L.self 0 _ _ _ st4 loop)
 ·have hls:∃us,listAt c9 l=some us:=a9 h λus e J=>⟨us,e⟩
  obtain⟨us,eu⟩:=hls
  induction bf o.rel ha eu with
  |mk ws hl qs=>
   refine wpAny_pyIter_list hl.list (jR (RR:=compPost (model T.prog T.w) A E use Q) hs.kind hs.cell λD C h4 tk f kp dn cn dc hD hC=>?_)
   have op:=dq (fp:=[c5.heap.objs.size]) (wr:=[c5.heap.objs.size]) (Hs:=[(.loc l,.ref a)]) (t3:=c5.toks) (t4:=tk) tm.toE5 c hs o (g9 _ _) dQ (O2 rfl) (λb hb=>.inl hb) kp dn cn dc hD hC λu v q=>by cases OX q;exact⟨rfl,.loc l a ha⟩
   have st4:h4.IsListIter c5.heap.objs.size a 0:=⟨_,kp _ _ (OU _ rfl),rfl,rfl⟩
   have cn':s.heap.get? C=none:=op.f.st.O4
   have loop:=AE (F:=BA T A sc C env W U s) (iter:=it') (sc:=sc) (pos:=pos) (K:=K) (Rz:=compPost (model T.prog T.w) A E use Q (.ref D) C) tm.toE5 hr ht rm (by rw[hks];exact tx) (by rw[hks];exact te) (by rw[hks];exact tc) (λq:c5.heap.objs.size=D=>op.nw (q▸.head _)) op.f (op.w.l _ (.head _)) op.a st4 h λz' c7 zs ys f a k=>Y1 zs c7 D C _ k (dr c.rel cn' dc f a)
   exact codeAny_compStart_list loop (wpAny_pyIter_listiter st4 loop)
end
section
variable {D:Addr} {e':Ex}
theorem i4.yJ {ob:O} (c:d9 T W U Y s.heap) (o:i4 T W U s c7 d7 s') (rel:d9 T (W.add [D]) d7 c7 s'.heap) (dn:s.heap.get? D=none) (hO:OR T W (d7++[D]) s'.heap D ob):i4 T W U s (c7++[ob]) (d7++[D]) s':=
 have ms:=km (T:=T) (W:=W) (U:=d7) (ds:=[D]) (pub:=[D]) (Off.refl _ s'.heap) λJ q=>q
 have nm:¬A7 T (W.add [D]) d7 D:=(rel.o5.own D (.head _)).nm
 {ext:={o.ext with
  pre:=λi a e=>aP (o.ext.pre i a e)
  new:=λa ha=>(Px ha).elim (o.ext.new a) λq=>.inr ((OX q)▸dn)}
  rel:={
   len:=by rw[List.length_append,List.length_append,o.rel.len];rfl
   nodup:=List.nodup_append.mpr ⟨o.rel.nodup,List.nodup_cons.mpr ⟨nofun,List.nodup_nil⟩,λa ha b hb e=>nm (.inl ((OX hb)▸e▸ha))⟩
   objs:=λi ob a h1 h2=>by
    by_cases hi:i < c7.length
    ·rw[Pn hi]at h1
     rw[Pn (o.rel.len.symm▸hi)]at h2
     exact OR.ms ms (λJ e=>e) (rel.objs i ob a h1 h2)
    ·rw[List.getElem?_append_right (Pr hi)]at h1
     rw[List.getElem?_append_right (o.rel.len.symm▸Pr hi),o.rel.len]at h2
     exact rb hO _ ob a h1 h2
   base:=o.rel.base
   fresh:=λa q=>rel.fresh a (dP (λJ q=>q) q)
   o5:=⟨λa ha=>⟨λz=>z.elim (λz=>(Px z).elim (λz=>(o.rel.o5.own a ha).nm (.inl z)) λz=>(c.o5.own a ha).ex.elim λob e=>d0 dn ((OX z)▸e)) λz=>(o.rel.o5.own a ha).nm (.inr z),(o.rel.o5.own a ha).ex⟩,
    λa ha=>⟨λz=>(Px z).elim (o.rel.o5.l6 a ha).nr λz=>nm (.inr (.inl ((OX z)▸ha))),(o.rel.o5.l6 a ha).nt,(o.rel.o5.l6 a ha).ex⟩⟩
   tabs:=λP hP=>(rel.tabs P hP).move (S:=λJ=>False) (Off.refl _ _) id (λJ J J q=>q.elim) ms.bb}}
inductive LA (T:i7) (W:r9) (U:List Addr) (s:Shared) (zs:List V) (c7:Hp) (D:Addr) (s':Shared):Prop
 |mk (d7:List Addr) (ys:List Value) (o:i4 T W U s c7 d7 s') (rel:d9 T (W.add [D]) d7 c7 s'.heap) (dn:s.heap.get? D=none) (hl:R6 s'.heap D ys) (q:E4 T (W.add [D]) d7 s'.heap zs ys)
theorem sO.close (c:d9 T W U Y s.heap) (e:sO T W U s zs c7 D C s') (hs:Heap.SameBut C s'.heap h'):LA T W U s zs c7 D {s' with heap:=h'}:=match e with
 |.mk d7 ys mC o rel dc dn cn hl q hn=>by
  have bb:∀a,k9 T (W.add [D]) d7 a->k9 T (W.add [D,C]) d7 a:=λa q=>q.imp id λq=>q.imp id λq=>q.imp (λq=>(OW q).elim (λq=>by rw[show a=D from q];exact .head _) λq=>.tail _ (.tail _ q)) id
  have kS:∀a,(λa=>a=C) a->a∈(W.add [D,C]).l6∨a∈(W.add [D,C]).own:=λa k=>.inr ((show a=C from k)▸.tail _ (.head _))
  have ms:=rel.T3 (S:=λa=>a=C) (λa q=>.inl (bb a q)) (SameBut.off hs) kS
  have nm:¬A7 T (W.add [D,C]) d7 C:=(rel.o5.own C (.tail _ (.head _))).nm
  have kp:∀{a ob},s'.heap.get? a=some ob->a≠C->h'.get? a=some ob:=λe k=>SameBut.off hs _ _ e k
  have rel':d9 T (W.add [D]) d7 c7 h':=rel.move (S:=λa=>a=C) (λa q=>.inl (bb a q)) (SameBut.off hs) kS
   ⟨λa ha=>(OW ha).elim (λq=>q.symm▸⟨(rel.o5.own D (.head _)).nm,hl.there.elim λob e=>⟨ob,kp e dc⟩⟩) λq=>⟨(rel.o5.own a (.tail _ (.tail _ q))).nm,(rel.o5.own a (.tail _ (.tail _ q))).ex.elim λob e=>⟨ob,kp e λk=>(c.o5.own a q).ex.elim λo e=>d0 cn (k▸e)⟩⟩,
    λa ha=>⟨(o.rel.o5.l6 a ha).nr,(o.rel.o5.l6 a ha).nt,(o.rel.o5.l6 a ha).ex.elim λob e=>⟨ob,kp e λk=>nm (.inr (.inl (k▸ha)))⟩⟩⟩
  exact .mk d7 ys (o.turn (s'':={s' with heap:=h'}) (SameBut.off hs) (λa k=>(show a=C from k)▸cn) ⟨rfl,rfl,rfl⟩ (rel'.FO (s8.add (s:=s) λd hd=>(OX hd)▸dn))) rel' dn (hl.at λob e=>kp e dc) (q.ms ms)
theorem wL (tm:TM T P) (hr:g7 T n r.ev) (ht:D8 T n r.tr) (c:Cx T W n A env own m U Y s) {pp:Bool} {elt:X} {xs:List Nat} {src:mK} {it:List X} {cond:Option X} (t:Tr T env.kindOf (.comp pp elt xs src it cond) e')
 (h:(s7 P r m (.comp pp elt xs src it cond) Y).c4 (KV T W U s Q) (XV T W U s E)):wpAny (model T.prog T.w) A (eval e' env) Q E s:=
 t.eG λelt' tgt it' cond' sc p t1 t2 t3 t4 t5=>by
  rw[eval_ListComp]
  refine jS tm hr ht c t1 t2 t3 t4 t5 (R.d5.mpr (R.c4.mono (R.d5.mp h) (λvs c7 q=>R.d5.mp q) λJ J x=>x)) λzs c7 D C s' hK ce=>?_
  induction ce with
  |mk Z4 ys0 mC o0 rel0 dc0 dn0 cn0 hl0 q0 hn0=>
  refine⟨mC,hn0,λn6 sb=>?_⟩
  induction sO.close (h':=n6) c.rel (.mk Z4 ys0 mC o0 rel0 dc0 dn0 cn0 hl0 q0 hn0) sb with
  |mk Oc ys o rel dn hl q=>
  have g:s8 s W (W.add [D]):=s8.add λd hd=>(OX hd)▸dn
  induction pp with
  |true=>exact(show KV T W U s Q (.loc c7.length) (c7++[.list zs])from hK) _ _ _ (i4.yJ (ob:=.list zs) c.rel o rel dn ⟨ys,hl,q.ms (km (Off.refl _ _) λJ q=>q)⟩) (.mk _ _ (.loc _ _ (o.rel.len▸List.getElem?_concat_length ..))) (G1.not rfl)
  |false=>exact(show KV T W U s Q (.g6 zs) c7 from hK) _ _ _ o (.mk _ _ (.jo _ zs ys D rfl rfl hl (cb c.rel.o5 g rel (.head _) dn) (q.ms (g.ms _)))) λJ=>⟨D,W.add [D],dn,g,.head _,rel,.l zs ys hl q⟩
def El (T:i7) (n:Nat) (run:Fr->X->Hp->R V):Prop:=
 ∀{W:r9} {A:Around} {env:Env} {own:List (Nat×Addr)} {m:Fr} {U:List Addr} {Y:Hp} {s:Shared} {elt:X} {xs:List Nat} {src:mK} {it:List X} {cond:Option X} {e':Ex} {gens:List Comprehension} {sc:Scope} {rp:Pos} {u:Value->Sem Unit} {Q:Shared->Prop} {E:Value->Shared->Prop} {X':Txt->Hp->Prop},
  Cx T W n A env own m U Y s->Tr T env.kindOf (.comp false elt xs src it cond) (.ListComp e' gens sc rp)->
  (run m (.comp false elt xs src it cond) Y).c4 (λv c7=>∀zs D C s',v=.g6 zs->sO T W U s zs c7 D C s'->wpAny (model T.prog T.w) A (u (.ref D)) (λJ s''=>∃mC,s''.heap.Ns C mC∧∀h',Heap.SameBut C s''.heap h'->Q {s'' with heap:=h'}) E s') X'->
  wpAny (model T.prog T.w) A (evalThenUse (.ListComp e' gens sc rp) env u) (λJ=>Q) E s
theorem xH (tm:TM T P) (hr:g7 T n r.ev) (ht:D8 T n r.tr):El T (n+1) (s7 P r):=by
 intro W A env own m U Y s elt xs src it cond e' gens sc rp u Q E X' c t h
 have h:((m7 r m it Y).z6.bind λvs Y=>(px r m elt xs cond src vs Y).bind λys Y=>.ok (.g6 ys) Y:R V).c4 (λv c7=>∀zs D C s',v=.g6 zs->sO T W U s zs c7 D C s'->wpAny (model T.prog T.w) A (u (.ref D)) (λJ s''=>∃mC,s''.heap.Ns C mC∧∀h',Heap.SameBut C s''.heap h'->Q {s'' with heap:=h'}) E s') X':=h
 refine t.eG (G:=λx=>x=.ListComp e' gens sc rp->wpAny (model T.prog T.w) A (evalThenUse (.ListComp e' gens sc rp) env u) (λJ=>Q) E s) (λelt' tgt it' cond' sc' p t1 t2 t3 t4 t5 e=>?_) rfl
 cases e
 show wpAny _ A (do let _←comprehension (.ListComp e' [⟨tgt,it',cond'.toList,0⟩] sc rp) sc env (firstIterPos [⟨tgt,it',cond'.toList,0⟩] rp) (newList []) (firstAsync [⟨tgt,it',cond'.toList,0⟩]) (firstIter [⟨tgt,it',cond'.toList,0⟩] env) (some u)) _ _ _
 refine OL (wpAny_mono (jS (Q:=λJ s=>Q s) tm hr ht c.low t1 t2 t3 t4 t5 (R.d5.mpr (R.c4.mono (R.d5.mp h) (λvs c7 q=>R.d5.mp q) λJ J x=>x)) λzs c7 D C s' hK ce=>?_) (λJ J q=>OM q) λJ J x=>x)
 exact hK zs D C s' rfl ce
end
section
variable {Q:Flow->Shared->Prop}
theorem vc (tk:E5 T P) (f:Fs F z m Y) {t:Mine.T} {x:Nat} (ht:JE t=some x) (hs:cS F x) {v:V} {w:Value} (gv:Gv F z v w) {K:Fr->Hp->Prop} {X':Txt->Hp->Prop} {Q:Unit->Shared->Prop} (h:(store P r t v m Y).c4 K X') (k:∀m' c7 z',K m' c7->Fs F z' m' c7->Q () z'.s):wpAny (model T.prog T.w) F.A (storeName F.env (T.nm x) w) Q E z.s:=by
 induction t with
 |OK=>cases ht;exact fh tk f hs gv h k
 |B4=>cases ht;exact bV tk f hs gv h k
 |_=>exact ns ht
theorem mf (tk:E5 T P) (hu:El T n r.ev) (rm:Rm F n) (f:Fs F z m Y) {t:Mine.T} {x:Nat} {e:X} {q:Pos} {elt:Ex} {gens:List Comprehension} {sc:Scope} {rp p:Pos} {c:X×List Nat×mK×List X×Option X} (hc:eL e=some c) (hx:JE t=some x) (hk:F.env.kindOf (T.nm x)=some .local) (hg:d6 T.glob x=none)
 (te:Tr T F.env.kindOf e (.ListComp elt gens sc rp)) (hl:(q.line == rp.line)=true) (hn:(sc.names.any λ(n,k)=>n == T.nm x&&(k ==.local || k ==.cell))=false)
 (h:(g8 P r m (.assign t e) Y).c4 (KF F Q) (XF F E)):wpAny (model T.prog T.w) F.A (exec (.Assign [.Name (T.nm x) q] (.ListComp elt gens sc rp) p) F.env) Q E z.s:=by
 have hsw:swapsWithSole [.Name (T.nm x) q] (.ListComp elt gens sc rp) p.line F.env=pure true:=by
  show swapsWith (.ListComp elt gens sc rp) (some (.Name (T.nm x) q)) p.line F.env=_
  unfold swapsWith
  dsimp only
  have hn':(sc.names.any λx_1=>match x_1 with|(n,k)=>n == T.nm x&&(k ==.local || k ==.cell))=false:=hn
  rw[gD f,hk,show(PySem.Expr.ListComp elt gens sc rp).pos=rp from rfl,hl]
  simp only[beq_self_eq_true,Bool.true_and]
  exact OY pure (by rw[Bool.not_eq_true'];exact hn)
 rw[sG hc]at te h
 rw[arm_exec_Assign]
 refine OL (Pk ?_)
 rw[hsw]
 refine OL (OM ?_)
 rw[Pp rfl]
 have key:wpAny (model T.prog T.w) F.A (evalThenUse (.ListComp elt gens sc rp) F.env λv=>assignAll v ((assignEach [.Name (T.nm x) q] F.env).map (·.2))) (λJ s'=>Q .next s') E z.s:=hu (Q:=λs'=>Q .next s') (E:=E) (f.mY rm.r) te (R.c4.mono (R.d5.mp h) (λv c7 k zs D C s' hv ce=>?_) λJ J x=>x)
 ·exact OL (wpAny_mono key (λJ s' q=>OM q) λJ J x=>x)
 subst hv
 obtain⟨d7,ys,mC,o,rel,dc,dn,cn,hld,qv,hnC⟩:=ce
 have hnew:∀d,d∈[D,C]->z.s.heap.get? d=none:=λd hd=>(OW hd).elim (λe=>e▸dn) λhd=>(OX hd)▸cn
 have z8:=f.grow o (s8.add hnew) rel
 have lD:l8 F ⟨z.W.add [D,C],z.own,d7,s'⟩ D:=f.loose dn (.head _)
 have lC:l8 F ⟨z.W.add [D,C],z.own,d7,s'⟩ C:=f.loose cn (.tail _ (.head _))
 obtain⟨oC,es,ep,eC,rC⟩:=id hnC
 have B9:Fs (F.hold [(C,oC,true)] []) ⟨z.W.add [D,C],z.own,d7,s'⟩ m c7:=z8.holds (λa o b q=>by cases OX q;exact lC.Fe z8 eC) λJ J q=>nomatch q
 show wpAny _ F.A (assign (.Name (T.nm x) q) F.env (.ref D)) _ _ _
 refine assign_Name (vc (F:=F.hold [(C,oC,true)] []) tk B9 hx (.loc hg hk) (.own D (lD.hold λp q=>by rw[OX q];exact Ne.symm dc) (.l zs ys hld qv)) (R.d5.mp k) λm₂ n9 Jc k₂ Q2=>?_)
 have x:=Q2.hd.objs C oC true (.head _)
 exact⟨mC,⟨oC,es,ep,x.at_,rC⟩,λn6 sb=>k₂ _ (Q2.y7.je (h':=n6) (t:=Jc.s.toks) (ds:=[C]) (λb hb=>(OX hb)▸⟨x.own rfl,x.nn,x.nc,lC.new,lC.out,lC.held⟩) λa ob e k=>SameBut.off sb a ob e λq=>k (List.mem_singleton.mpr q))⟩
theorem pQ (tk:E5 T P) (hr:g7 T n r.ev) (hu:El T n r.ev) (rm:Rm F n) (f:Fs F z m Y) {t:Mine.T} {e:X} (ts:I8 T F.env.kindOf (.assign t e) st) (h:(g8 P r m (.assign t e) Y).c4 (KF F Q) (XF F E)):wpAny (model T.prog T.w) F.A (exec st F.env) Q E z.s:=
 ts.jY (λt' e' p tt te hc J=>lY tk hr rm f tt te hc h) λx q elt gens sc rp p c hc hx hk hg te hl hn=>mf tk hu rm f hc hx hk hg te hl hn h
end
section
variable {o':Ex}
theorem W8 {OK:Str} {apos pos:Pos} {ov:Value} {k:Nat} {args:List (Bool×Sem Value)} {kws:List (Option Str×Sem Value)} (hf:methodCallForm k args kws=true) (hp:(apos.endLine == pos.line)=true)
 (h:∀pl,wpAny (model T.prog T.w) A (getMethod ov OK pl) (λf s'=>wpAny (model T.prog T.w) A (callWith pos f.1 f.2 args kws) Q E s') E s):wpAny (model T.prog T.w) A (methodCall o' OK apos pos env ov k args kws) Q E s:=by
 unfold methodCall
 rw[hf]
 refine OL (Pd ?_)
 show wpAny _ _ (getMethod ov OK _) _ _ _
 refine wpAny_mono (h _) (λf s' k=>?_) λJ J x=>x
 show wpAny _ _ (methodCallPos true o' env apos pos >>= _) _ _ _
 refine OL ?_
 unfold methodCallPos
 have e:((!true || apos.endLine == pos.line)=true):=hp
 rw[Pp e]
 exact OM k
theorem ug {kd:Kd} {es:List X} {es':List Ex} (t:Z2 T kd es es') (pos:Pos) (env:Env) (hl:es.length≤12):methodCallForm (es'.length+([]:List Keyword).length) (backTo pos (starEach es' env)) (backToKw pos (keywordEach [] env))=true:=by
 have h2:(backTo pos (starEach es' env)).all (!·.1)=true:=by
  clear hl
  induction t with
  |nil=>rfl
  |cons _ e' _ es' te _ ih=>rw[V5 te];exact ih
 unfold methodCallForm
 rw[h2]
 show(true&&true&&decide (es'.length+0+0 < 30))=true
 exact decide_eq_true (p:=es'.length < 30) (Pf (t.len▸hl:es'.length≤12) (by decide))
theorem Cx.look (c:Cx T W n A env own m U Y s) {x:Nat} {v:V} (t:Tr T env.kindOf (.OK x) o') (e:d6 m x=some v):∃w,n7 W env s.heap (T.nm x) w∧FV T W U s.heap own x v w:=
 t.P5 (G:=λJ=>∃w,n7 W env s.heap (T.nm x) w∧FV T W U s.heap own x v w) λJ J J h3=>c.fr.var x v e (h3 (c.fr.loc x v e))
theorem aQ (c:Cx T W n A env own m U Y s) {x:Nat} {v:V} {OK:Str} {bid:String} {es:List X} {es':List Ex} {q1 q2:Pos} (tn:Tr T env.kindOf (.OK x) o') (ts:Z2 T env.kindOf es es') (hn:es'≠[]) (hlen:es.length≤12) (hl:(q1.endLine == q2.line)=true) (hx:d6 m x=some v)
 (hg:∀w {pl} {Q':Value×List Value->Shared->Prop},FV T W U s.heap own x v w->Q' (.builtin bid,[w]) s->wpAny (model T.prog T.w) A (getMethod w OK pl) Q' E s)
 (h:∀w,n7 W env s.heap (T.nm x) w->FV T W U s.heap own x v w->wpAny (model T.prog T.w) A (spliced (backTo q2 (starEach es' env))) (λws s'=>T.K.In s'.heap∧wpAny (model T.prog T.w) A (call (.builtin bid) (w::ws)) Q E s') E s):
 wpAny (model T.prog T.w) A (eval (.Call (.Attribute o' OK q1) es' [] q2) env) Q E s:=by
 rw[arm_eval_Call]
 exact OL (P1 (tn.P5 λJ J J J=>rfl) (aU c tn hx λw held fv=>OL (Pk (W8 (ug ts q2 env hlen) hl λpl=>hg w fv
  (callWith_of (P:=λh=>T.K.In h) (by rw[W6 ts];rfl) (M5 rfl) (J2 ts (λe=>absurd e hn) (h w held fv)))))))
theorem K9 {Q:Flow->Shared->Prop} (hk:env.scope.kind=.function) {f:Ex} {es':List Ex} {q p:Pos} (h:wpAny (model T.prog T.w) A (eval (.Call f es' [] q) env) (λJ s=>Q .next s) E s):wpAny (model T.prog T.w) A (exec (.Expr (.Call f es' [] q) p) env) Q E s:=
 wpAny_Expr_any h (by unfold interactive;rw[hk];rfl) rfl
theorem T5 {xs:List Value} {a:Addr} {OK:Str} {id:String} {pl:Sem Bool} {Q:Value×List Value->Shared->Prop} (l:R6 s.heap a xs) (slot:Slot "list" OK id) (hty:typeOf (.builtin id)=pure (.type "method_descriptor")) (h:Q (.builtin id,[.ref a]) s):wpAny (model T.prog T.w) A (getMethod (.ref a) OK pl) Q E s:=
 l.elim λJ e=>getMethod_builtin l.list.typeIs PySem.F.plainAttrs_list slot hty (λb q=>by cases q;exact⟨_,e,rfl⟩) h
end
section
variable {Q:Flow->Shared->Prop}
theorem kz {α:Type} {K:α->Hp->Prop} {Q:List Value->Shared->Prop} (hr:g7 T n r.ev) (rm:N7 F.A n) (f:Fs F z m Y) {x i:Nat} {v:V} {w:Value} {e:X} {o' e':Ex} {q:Pos} {g:V->Hp->R α} (tn:Tr T F.env.kindOf (.OK x) o') (te:Tr T F.env.kindOf e e') (hx:d6 m x=some v) (held:n7 z.W F.env z.s.heap (T.nm x) w)
 (h:((r.ev m e Y).bind λv Y=>(b8 i (freeze v) Y).bind g).c4 K (XF F E)) (k:∀u c9 z' wu,Fs F z' m c9->n7 z'.W F.env z'.s.heap (T.nm x) w->FV T z'.W z'.U z'.s.heap z'.own x v w->solid u=true->eP T z'.W z'.U z'.s.heap u wu->(g u c9).c4 K (XF F E)->Q [wu] z'.s):
 wpAny (model T.prog T.w) F.A (spliced (backTo q (starEach [e'] F.env))) Q E z.s:=by
 rw[V5 te]
 refine spliced_cons (f.eval hr rm te h λu c9 wu c5 c8 o hv hf h=>a9 h λu' hz h=>f.give o hv hf λiQ z8 gv=>z8.freeze gv hz λbI B9 gs hv'=>?_)
 obtain⟨w',held',fv'⟩:=B9.cx.look tn hx
 have e:=(n7.step f held o).unique held'
 subst e
 exact OM (k u' c9 ⟨bI,z.own,c8,c5⟩ wu B9 held' fv' gs hv' h)
theorem kT (tk:E5 T P) (hr:g7 T n r.ev) (rm:Rm F n) (f:Fs F z m Y) {x:Nat} {e:X} (t:I8 T F.env.kindOf (.F1 x e) st) (h:(g8 P r m (.F1 x e) Y).c4 (KF F Q) (XF F E)):wpAny (model T.prog T.w) F.A (exec st F.env) Q E z.s:=
 t.ry λo' e' q1 q2 p tn te hl=>a9 h λxs ex h=>a0 ex λo eo ex=>by
  rw[eK ex]at eo
  refine K9 f.cx.fr.kind (aQ (bid:="list.append") (f.mY rm.r) tn (.cons e e' [] [] te .nil) nofun (show 1≤12 by decide) hl eo (λw pl Q' fv hq=>?_) λw held fv=>kz hr rm.r f tn te eo held h λu c9 z' wu f' held' fv' g hv h=>⟨k7 tk f'.cx.rel,q8 h λhz h=>?_⟩)
  ·revert hq
   exact fv.fU λws a o l q hq=>T5 l slot_list_append type_list_append hq
  ·revert held'
   exact fv'.fU λws a o l q held'=>l.elim λk ho=>append_at (hsz:=by rw[Ph,q.length];exact u7 hz) ho λh' hs' ho'=>h _ (f'.eX (t:=z'.s.toks) eo held' o hs' ⟨_,ho'⟩ λms=>.ml _ (ws++[wu]) a o ⟨k+1,ho'.trans (OY (λx=>some ({cls:=.type "list",data:=.seq x (k+1)}:Obj)) (List.push_toArray ws wu))⟩ ((q.ms ms).append (.cons _ _ _ _ g (hv.ms ms) .nil)))
end
theorem R6.update {h:Heap} {a:Addr} {xs ys:List Value} (l:R6 h a xs) (f:Array Value->Array Value) (e:f xs.toArray=ys.toArray):R6 (h.update a (Obj.mapSeq f)) a ys:=
 l.elim λk ho=>(fZ xs.toArray k f #[]).elim λk' e'=>⟨k',(Heap.get?_update_self _ ho (OY Obj.isFreed e')).trans (OY some (e'.trans (OY (λx=>({cls:=.type "list",data:=.seq x k'}:Obj)) e)))⟩
theorem Dq {xs:List Value} {y:Value}:(have k:=if(0:Int) < 0 then((0:Int)+((xs.toArray.size:Nat):Int)).toNat else min (Int.toNat 0) xs.toArray.size;(xs.toArray.extract 0 k).push y++xs.toArray.extract k)=(y::xs).toArray:=by
 apply Array.toList_inj.mp
 simp
section
variable {Q:Flow->Shared->Prop}
theorem sP {kd:Kd} {i:Nat} {q:Pos}:Tr T kd (.lit (.int 0)) (.Constant (.int 0) i q):=⟨0,rfl⟩
theorem kO (tk:E5 T P) (hr:g7 T n r.ev) (rm:Rm F n) (f:Fs F z m Y) {x:Nat} {e:X} (t:I8 T F.env.kindOf (.K4 x e) st) (h:(g8 P r m (.K4 x e) Y).c4 (KF F Q) (XF F E)):wpAny (model T.prog T.w) F.A (exec st F.env) Q E z.s:=
 t.rt λo' e' i q0 q1 q2 p tn te hl=>a9 h λxs ex h=>a0 ex λo eo ex=>by
  rw[eK ex]at eo
  refine K9 f.cx.fr.kind (aQ (bid:="list.insert") (f.mY rm.r) tn (.cons (.lit (.int 0)) _ _ _ sP (.cons e e' [] [] te .nil)) nofun (show 2≤12 by decide) hl eo (λw pl Q' fv hq=>?_) λw held fv=>spliced_cons (wpAny_Constant_int (k:=i) (pos:=q0) ?_))
  ·revert hq
   exact fv.fU λws a o l q hq=>T5 l PySem.F.slot_list_insert PySem.F.type_list_insert hq
  ·have o:=i4.toks (t:=z.s.toks+1) f.cx.rel
   have held1:=n7.step f held o
   refine kz (Q:=λws s'=>T.K.In s'.heap∧wpAny (model T.prog T.w) F.A (call (.builtin "list.insert") (w::.int 0 z.s.toks::ws)) (λJ s=>Q .next s) E s') hr rm.r (f.step o) tn te eo held1 h λu c9 z' wu f' held' fv' g hv h=>⟨k7 tk f'.cx.rel,q8 h λhz h=>?_⟩
   revert held'
   exact fv'.fU λws a o l q held'=>l.elim λk ho=>by
    have l2:=l.update (λxs=>have k:=if(0:Int) < 0 then((0:Int)+((xs.size:Nat):Int)).toNat else min (Int.toNat 0) xs.size;(xs.extract 0 k).push wu++xs.extract k) Dq
    exact call_meets PySem.F.slot_list_insert l.list.typeIs PySem.F.entry_list_insert (PySem.F.args_list_insert_3 _ _ _) (PySem.AutoListH.list_insert_list_int_val_1 a ws.toArray k 0 z.s.toks wu (by decide) (hsz:=by rw[Ph,q.length];exact u7 hz)) ⟨ho,h _ (f'.eX (t:=z'.s.toks) eo held' o (Heap.SameBut.update ..) l2.there λms=>.ml _ (wu::ws) a o l2 (.cons _ _ _ _ g (hv.ms ms) (q.ms ms)))⟩
theorem vE (tk:E5 T P) (rm:Rm F n) (f:Fs F z m Y) {x y:Nat} (t:I8 T F.env.kindOf (.fT y x) st) (h:(g8 P r m (.fT y x) Y).c4 (KF F Q) (XF F E)):wpAny (model T.prog T.w) F.A (exec st F.env) Q E z.s:=
 t.CR λo' i q0 q1 q2 q4 p tn hs hxy hl=>a9 h λvx ev h=>a0 ev λo eo ev=>a0 ev λus eu ev=>q8 h λhz h=>by
  rw[eK eu]at eo
  induction us with
  |nil=>exact ns ev
  |cons v xs=>
   cases ev
   rw[arm_exec_Assign]
   refine OL (Pk ?_)
   rw[show swapsWithSole [.Name (T.nm y) q4] (.Call (.Attribute o' "pop" q1) [.Constant (.int 0) i q0] [] q2) p.line F.env=pure false from rfl]
   refine OL (OM ?_)
   rw[Pq Bool.false_ne_true]
   refine OL (aQ (bid:="list.pop") (f.mY rm.r) tn (.cons (.lit (.int 0)) _ [] [] sP .nil) nofun (show 1≤12 by decide) hl eo (λw pl Q' fv hq=>?_) λw held fv=>spliced_cons (wpAny_Constant_int (k:=i) (pos:=q0) ?_))
   ·revert hq
    exact fv.fU λws a o l q hq=>T5 l PySem.F.slot_list_pop PySem.F.type_list_pop hq
   ·have o:=i4.toks (t:=z.s.toks+1) f.cx.rel
    have f':=f.step o
    have held':=n7.step f held o
    refine OM ⟨k7 tk f'.cx.rel,?_⟩
    revert held'
    exact fv.fU λws a o l q held'=>by
     cases q with
     |cons _ wv _ ws g hv q=>
     refine l.elim λk0 ho=>?_
     have l2:=l.update (λxs=>xs.eraseIdxIfInBounds 0) (kl_erase [] ws wv)
     refine call_meets PySem.F.slot_list_pop l.list.typeIs PySem.F.entry_list_pop (PySem.F.args_list_pop_2 _ _) (PySem.MeetsSeq.list_pop_at a (wv::ws).toArray k0 0 z.s.toks 0 wv (by decide) (by simp[seqIndex?]) (by simp) (hs1:=?_)) ⟨ho,?_⟩
     ·rw[Ph,List.length_cons,q.length,sizeLine_eq]
      exact OV (Nat.succ_le_succ (OO hz)) (by decide)
     have z8:Fs (F.hold [] [(v,wv)]) _ m Y:=f'.holds (λJ J J q=>nomatch q) λu w k=>by cases OX k;exact⟨g,hv⟩
     have B9:=z8.eX (v':=.g6 xs) (t:=z.s.toks+1) eo held' o (Heap.SameBut.update _ a (Obj.mapSeq λxs=>xs.eraseIdxIfInBounds 0)) l2.there λms=>.ml _ ws a o l2 (q.ms ms)
     have hv2:=B9.hd.vals v wv (.head _)
     show wpAny _ F.A _ Q E _
     rw[show swappedStores [.Name (T.nm y) q4] (.Call (.Attribute o' "pop" q1) [.Constant (.int 0) i q0] [] q2) F.env=pure none from rfl]
     refine OL (OM ?_)
     show wpAny _ F.A (do assign (.Name (T.nm y) q4) F.env wv;pure .next) Q E _
     exact OL (assign_Name (B9.y7.store tk (hs.La rm.c) hv2.g hv2.r λw9 Q2=>OM (h _ Q2)))
end
section
variable {Q:Flow->Shared->Prop}
@[elab_as_elim] theorem VS.U2 {U:List Addr} {bad:Addr->Prop} {h:Heap} {v:V} {w:Value} {kvs:List (Txt×V)} {G:Value->Prop} (x:VS T U bad h v w) (e:ents v=some kvs) (k:∀a,V1 T U bad h kvs a->¬bad a->G (.ref a)):G w:=by
 cases x with
 |G4 _ _ x=>exact d0 x.ents e
 |loc|tup|obj=>cases e
 |jo _ _ _ _ e'=>exact gO e' e
 |mX _ _ a kws e' _ hd s n e2 r=>exact k a ⟨kws,hd,s,ON (e'.symm.trans e)▸e2,ON (e'.symm.trans e)▸r⟩ n
theorem J8.len {κ K:Type} {key:κ->K} {U:List Addr} {bad:Addr->Prop} {h:Heap} {kvs:List (κ×V)} {kws:List (K×Value)} (x:J8 T U bad h key kvs kws):kws.length=kvs.length:=by rw[←OZ (f:=Prod.fst),x.e,OZ]
theorem kL (tk:E5 T P) (hr:g7 T n r.ev) (rm:Rm F n) (f:Fs F z m Y) {x:Nat} {e:X} (t:I8 T F.env.kindOf (.J0 x e) st) (h:(g8 P r m (.J0 x e) Y).c4 (KF F Q) (XF F E)):wpAny (model T.prog T.w) F.A (exec st F.env) Q E z.s:=
 t.rq λo' e' q1 q2 p tn te hl=>a9 h λold ex h=>a0 ex λo eo ex=>by
  rw[mj ex]at eo
  refine K9 f.cx.fr.kind (aQ (bid:="dict.update") (f.mY rm.r) tn (.cons e e' [] [] te .nil) nofun (show 1≤12 by decide) hl eo (λw pl Q' fv hq=>?_) λw held fv=>kz hr rm.r f tn te eo held h λu c9 z' wu f' held' fv' g hv h=>⟨k7 tk f'.cx.rel,a9 h λkvs ek h=>q8 h λhz h=>?_⟩)
  ·revert hq
   exact fv.zh λa o q hq=>q.Bt λkws d J J=>getMethod_builtin d.typeIs PySem.F.plainAttrs_dict PySem.F.slot_dict_update PySem.F.type_dict_update d.mapOf.noDict hq
  ·revert held'
   exact fv'.zh λa o q held'=>hv.U2 ek λd qd nb=>q.Bt λws l hs q=>qd.Bt λkws hd hds qd=>by
    have ne:a≠d:=λk=>nb (k▸.inr (.inr (.inl (f'.cx.fr.own x a o))))
    refine call_meetsIn PySem.F.slot_dict_update l.typeIs PySem.F.entry_dict_update (PySem.F.args_dict_update_2 _ _) (meets_dict_update _ a d ne hds) ⟨ws,kws,l,hd,by rw[q.len,qd.len];exact u7 hz,λh' hd' J hs'=>?_⟩
    exact h _ (f'.eX (t:=z'.s.toks) eo held' o hs' (l9 hd') λms=>.md _ a o (((qd.ms ms).qL (q.ms ms)).uq hd' hs))
end
variable {bad f7:Addr->Prop} {v:V}
section
variable {r:V} {w:Value}
@[elab_as_elim] theorem z1.aO {G:List V->List Value->Prop} {xs:List V} {ws:List Value} (x:z1 T U bad h xs ws) (h0:G [] []) (h1:∀v w vs ws,solid v=true->VS T U bad h v w->z1 T U bad h vs ws->G vs ws->G (v::vs) (w::ws)):G xs ws:=by
 induction xs generalizing ws with
 |nil=>cases x;exact h0
 |cons v r ih=>cases x with|cons _ w _ ws g a q=>exact h1 _ _ _ _ g a q (ih q)
theorem KV.keep (c:d9 T W U Y s.heap) {h':Heap} {t:Nat} (hk:∀b o,s.heap.get? b=some o->h'.get? b=some o) (hv:bN T v w) (k:KV T W U s Q v Y):Q w {s with heap:=h',toks:=t}:=k _ _ _ (i4.keeps c hk) (.mk _ _ (.G4 _ _ hv)) (G1.not hv.made)
theorem HD {n:Nat} (h:Nat.ble n 1000=true):(n:Int) < 2 ^ 63:=Int.ofNat_lt.mpr (Pf (OO h) (by decide))
theorem EN {xs:List V} {ws:List Value} {a:Addr} (c:d9 T W U Y s.heap) (l:R6 s.heap a ws) (q:z1 T U bad s.heap xs ws) (hz:Nat.ble xs.length 1000=true) (k:KV T W U s Q (.int (Int.ofNat xs.length)) Y):wpAny (model T.prog T.w) A (call (.builtin "len") [.ref a]) Q E s:=by
 rw[←q.length]at hz k
 exact call_len_list l.list (HD hz) (KV.int c k)
theorem Ir (c:d9 T W U Y s.heap) (hv:C5 T W U s.heap v w) (e:Fz v Y=some r) (k:KV T W U s Q r Y):wpAny (model T.prog T.w) A (call (.builtin "len") [w]) Q E s:=
 i0 e (λe=>a0 e λi ei e=>a0 e λo eo e=>a0 e λxs ex e=>i9 e λg e=>A9 hv ei λa ha=>c.at eo λa' ha' q=>by
  rw[O0 ex,ON (ha'.symm.trans ha)]at q
  exact match q with|⟨ws,l,q⟩=>EN c l q g (e▸k)) λe=>
 a0 e λn en e=>i9 e λg e=>by
  subst e
  exact i0 en (λe=>d8 e λx ex e=>n8 hv ex λt J=>by
   subst e
   rw[←K0]at k g
   exact PySem.P.len_str (Int.not_le.mpr (HD g)) (KV.int c k)) λe=>
  i0 e (λe=>d8 e λx ex e=>F6 hv ex λb t hb=>by
   subst e
   have e:b.size=x.length:=by rw[←hb,OZ];exact Array.length_toList.symm
   rw[←e]at k g
   exact PySem.W.len_bytes (OV (OO g) (by decide)) (KV.int c k)) λe=>
  i0 e (λe=>d8 e λx ex e=>E7 hv ex λa ws l J q=>by
   subst e
   rw[←q.length]at k g
   exact PyProof.Rows.len_tuple l.tup (HD g) (KV.int c k)) λe=>
  d8 e λx ex e=>VR.z0 hv ex λa ws l J q=>EN c l q (e▸g) (e▸k)
theorem iP (c:d9 T W U Y s.heap) {b:Bi} {t:Bool} (hv:C5 T W U s.heap v w) (e:EU b v=some t) (k:KV T W U s Q (.bool t) Y):wpAny (model T.prog T.w) A (call (.builtin "isinstance") [w,AX b]) Q E s:=by
 induction b with
 |int=>exact i0 e (λe=>d8 e λJ ex e=>u6 hv ex λJ=>IsiPair.int_int (KV.bool c (e▸k))) λe=>i0 e (λe=>d8 e λJ ex e=>H7 hv ex (IsiPair.bool_int (KV.bool c (e▸k)))) λe=>d8 e λJ ex e=>n8 hv ex λJ J=>IsiPair.str_int (KV.bool c (e▸k))
 |bool=>exact i0 e (λe=>d8 e λJ ex e=>u6 hv ex λJ=>IsiPair.int_bool (KV.bool c (e▸k))) λe=>i0 e (λe=>d8 e λJ ex e=>H7 hv ex (IsiPair.bool_bool (KV.bool c (e▸k)))) λe=>d8 e λJ ex e=>n8 hv ex λJ J=>IsiPair.str_bool (KV.bool c (e▸k))
 |_=>exact ns e
theorem It (c:d9 T W U Y s.heap) (hv:C5 T W U s.heap v w) {b:Bool} (e:L5 v=some b) (k:KV T W U s Q (.int (b2i b)) Y):wpAny (model T.prog T.w) A (call (.type "int") [w]) Q E s:=
 H7 hv e (call_int_bool (KV.int c (by induction b<;>exact k)))
theorem AR {xs:List V} {ws:List Value} (q:z1 T U bad h xs ws):∀b,allB xs=some b->∃bs,LSm.BoolsAre ws bs∧bs.all id=b:=
 q.aO (λb e=>⟨[],.nil,ON e⟩) λv w vs ws g a q ih b e=>a0 e λx ex e=>d8 e λy ey e=>(ih y ey).elim λbs z=>H7 (.mk (f7:=bad) _ _ a) ex ⟨x::bs,.cons x z.1,by rw[List.all_cons,z.2];exact e⟩
theorem Dp {xs:List V} {ws:List Value} (q:z1 T U bad h xs ws):∀i,nv xs=some i->∃ns,IntsAre ws ns∧ns.sum=i:=
 q.aO (λb e=>⟨[],.nil,ON e⟩) λv w vs ws g a q ih b e=>a0 e λx ex e=>d8 e λy ey e=>(ih y ey).elim λbs z=>u6 (.mk (f7:=bad) _ _ a) ex λt=>⟨x::bs,.cons x t z.1,by rw[List.sum_cons,z.2];exact e⟩
inductive Nq (ws:List Value) (b:List Nat):Prop
 |mk (h:IntsAre ws (b.map Int.ofNat)) (k:∀i,i∈b->i < 256)
theorem vu {xs:List V} {ws:List Value} (q:z1 T U bad h xs ws):∀b,dJ xs=some b->Nq ws b:=
 q.aO (λb e=>ON e▸⟨.nil,λJ q=>nomatch q⟩) λv w vs ws g a q ih b e=>a0 e λx ex e=>a0 e λn en e=>a0 e λm em e=>i9 em λg em=>d8 e λy ey e=>match ih y ey with
  |⟨h,k⟩=>u6 (.mk (f7:=bad) _ _ a) ex λt=>by
   subst e;subst em
   rw[T2 en]
   exact⟨.cons _ t h,λi hi=>(OW hi).elim (λq=>q▸OO g) (k i)⟩
theorem xA {xs:List Bool}:((List.range xs.length).all λi=>(xs[i]?).getD true)=xs.all id:=by
 induction xs with
 |nil=>rfl
 |cons x r ih=>rw[List.length_cons,List.range_succ_eq_map,List.all_cons,List.all_map,List.all_cons];exact OY (x&& ·) ih
theorem pJ {prog:Program} {wd:World} {ws:List Value} {bs:List Bool} (z:LSm.BoolsAre ws bs):TruthOf prog wd A (λi v=>ws.toArray[i]? =some v) λi=>(bs[i]?).getD true:=by
 intro i v s' Q' E' hP hQ
 obtain⟨b,e,rfl⟩:=z.get i v ((List.getElem?_toArray ..).symm.trans hP)
 have hQ:Q' ((bs[i]?).getD true) s':=hQ
 rw[e]at hQ
 exact wpAny_truthy_bool hQ
theorem Iu (c:d9 T W U Y s.heap) (hh:A.handled=none) {xs:List V} {b:Bool} (hv:C5 T W U s.heap v w) (e1:E3 v=some xs) (e:allB xs=some b) (k:KV T W U s Q (.bool b) Y):wpAny (model T.prog T.w) A (call (.builtin "all") [w]) Q E s:=
 VR.z0 hv e1 λa ws l J q=>(AR q b e).elim λbs z=>l.elim λj hl=>
  call_all_walk (wpAny_pyIter_list l.list ⟨s.heap.objs.size,[s.heap.objs.size,a],[s.heap.objs.size],ws.toArray.size,_,_,λi=>(bs[i]?).getD true,rfl,Walks.list (A:=A.in1) hh _ a (Nat.ne_of_lt (Pu hl)) ws.toArray,
   ⟨⟨_,OU _ rfl,rfl,rfl⟩,l.list.push _⟩,pJ z.1,
   λh' tk hk=>by rw[Ph,z.1.length,xA,z.2];exact KV.keep c (LSm.kept_iter hk) (.bool b) k⟩)
theorem Iq (c:d9 T W U Y s.heap) (hh:A.handled=none) {xs:List V} {b:Int} (hv:C5 T W U s.heap v w) (e1:E3 v=some xs) (e:nv xs=some b) (k:KV T W U s Q (.int b) Y):wpAny (model T.prog T.w) A (call (.builtin "sum") [w]) Q E s:=
 VR.z0 hv e1 λa ws l J q=>(Dp q b e).elim λbs z=>z.1.allInts.items.elim λxs' hx=>sum_intListG hh (hx▸l.list) λh' tk t' hk=>by
  have e1:bs=xs'.toList.map (·.1):=by
   rw[←nums_intItems,←hx]
   exact(show numsOf ws.toArray.toList=bs from z.1.numsOf).symm
  rw[preSum_eq,List.take_of_length_le (by rw[OZ];exact Pw _),←e1,z.2]
  exact KV.keep c hk (.int b t') k
theorem oh {b:List Nat} (h:∀i,i∈b->i < 256):(byteArr (b.map Int.ofNat)).toList.map UInt8.toNat=b:=by
 have e:∀i,i∈b->((Int.toNat (Int.ofNat i)).toUInt8).toNat=id i:=λi hi=>Nat.mod_eq_of_lt (h i hi)
 unfold byteArr
 rw[List.map_map,List.map_map]
 exact(List.map_congr_left e).trans (List.map_id b)
theorem xi (c:d9 T W U Y s.heap) (hh:A.handled=none) {xs:List V} {b:List Nat} (hv:C5 T W U s.heap v w) (e1:E3 v=some xs) (hz:Nat.ble xs.length 1000=true) (e:dJ xs=some b) (k:KV T W U s Q (.bytes b) Y):wpAny (model T.prog T.w) A (call (.type "bytes") [w]) Q E s:=
 VR.z0 hv e1 λa ws l J q=>match vu q b e with
  |⟨hi,hb⟩=>call_bytes_ints l.list hi (λn hn=>match List.mem_map.mp hn with|⟨i,h1,e⟩=>e▸⟨Pj i,Int.ofNat_lt.mpr (hb i h1)⟩) (by rw[q.length];exact u7 hz) hh λh' t kk hk=>KV.keep c hk (.bytes b _ t (oh hb)) k
end
theorem bY:typeLookup (.type "bytes") "__bytes__"=pure (some (.builtin "bytes.__bytes__")):=by rw[typeLookup_type,builtinLookup_eq_fast];rfl'
section
theorem cG {b:Array UInt8} {t:Tok} {Q:Value->Shared->Prop} (hQ:Q (.bytes b t) s):codeAny (model prog w) A (.call (.builtin "bytes.__new__") ⟨[.type "bytes",.bytes b t],[]⟩) (wants Q E) s:=by
 refine codeAny_of_tree ?_
 show wpAny _ A.in1 (do checkBuiltinCall "bytes.__new__" ⟨[.type "bytes",.bytes b t],[]⟩;again (.builtin "bytes.__new__" ⟨[.type "bytes",.bytes b t],[]⟩)) _ _ s
 refine OL (wpAny_of_eq (F.bm_newCall _) (OM ⟨plainId_quiet F.bm_plain _,codeAny_builtin F.bm_entry ?_⟩))
 rw[Around.under_plainId F.bm_plain _]
 have hT:s.TypeIs (.bytes b t) "bytes":=PySem.W.typeIs_bytes _ _ _
 unfold Builtin.«bytes.__new__»
 refine OL (wpAny_of_eq (a:=true) rfl ?_)
 refine bm_if_false rfl ?_
 refine OL (wpAny_of_eq F.bm_sub ?_)
 refine bm_if_false rfl ?_
 refine OL (wpAny_of_eq (F.bm_bind _) ?_)
 refine OL (wpAny_of_eq (a:=()) rfl ?_)
 refine OL (wpAny_of_eq (a:=()) rfl ?_)
 refine bm_if_false rfl ?_
 refine OL (wpAny_specialOf hT bY ?_)
 with_unfolding_all show wpAny _ _ (rule "bytes.__new__.of-bytes" >>= λJ=>typeOf (Value.bytes b t) >>= λz=>if(z == Value.type "bytes")=true then _ else _) _ _ _
 refine OL (wpAny_rule ?_)
 refine OL (wpAny_typeOf hT ?_)
 refine bm_if_true (by decide) ?_
 show wpAny _ _ (if(Value.type "bytes"== Value.type "bytes")=true then _ else _) _ _ _
 refine bm_if_true (by decide) ?_
 first
  |exact OM hQ
  |exact OL (OM (OM hQ))
theorem cJ {b:Array UInt8} {t:Tok} {Q:Value->Shared->Prop} (hQ:Q (.bytes b t) s):wpAny (model prog w) A (call (.type "bytes") [.bytes b t]) Q E s:=
 callType_codes (Q₁:=λobj c5=>c5.TypeIs obj "bytes"∧Q obj c5) F.bm_called (F.bm_typeCall _) F.entry_object_init (cG ⟨PySem.W.typeIs_bytes _ _ _,hQ⟩) λobj c5 n6=>
  ⟨n6.1,F.args_object_init_2 obj _,object_init_meets F.bm_called.init.lookup F.bm_called.made (by decide) prog w A.in1 _ c5 ⟨n6.1,rfl,n6.2⟩⟩
end
theorem kY:typeLookup (.type "list") "keys"=pure none:=by rw[typeLookup_type,builtinLookup_eq_fast];rfl'
section
theorem iB {a:Addr} {xs:Array Value} {k:Nat} {Q:Option Value->Shared->Prop} (hx:s.heap.get? a=some {cls:=.type "list",data:=.seq xs k}) (hA:A.handled=none)
 (h:∀h' tk,(∀b o,s.heap.get? b=some o->h'.get? b=some o)->Q none {s with heap:=h',toks:=tk}):wpAny (model prog w) A (getAttr? (.ref a) "keys") Q E s:=by
 obtain⟨hp,g,d,tk,os⟩:=s
 have hT:∀tk',(⟨hp,g,d,tk',os⟩:Shared).TypeIs (.ref a) "list":=λJ=>⟨_,hx,rfl⟩
 have f1:=sub_AttributeError
 have f3:=F.slot_list_getattribute.lookup
 have f4:=F.slot_list_getattribute.bind (.ref a)
 have f5:=am_list_getattr_none
 unfold getAttr? getAttrBy? getAttrBy
 repeat (any_goals (first|assumption|exact hT _|((with_reducible show wpAny _ _ (call (Value.builtin "list.__getattribute__") _ _) _ _ _);refine call_meets F.slot_list_getattribute (hT _) am_entry_list_getattribute (F.args_list_getattribute_2 _ _) (meets_getattribute_miss_list a xs k #[] "keys" _ kY (by decide+kernel) (by decide+kernel)) ⟨hx,hA,λh' tk' e hx'=>?_⟩)|wp_step))
 obtain⟨t',u',he⟩:=hx'.there
 show wpAny _ _ (getattributeRaised _ _ _ _ _ _ _) _ _ _
 unfold getattributeRaised
 repeat (any_goals (first|assumption|wp_step))
 exact h _ _ hx'.of.keeps
theorem S2:entryFor table "dict.update.loop"=some Builtin.«dict.update.loop»:=entryFor_of_tree (by rfl')
theorem D3:plainId "dict.update.loop"=true:=by decide+kernel
inductive cP (h:Heap) (ws:List Value) (i:Nat) (k:Str) (v:Value):Prop
 |mk (p:Addr) (t:Tok) (n:Nat) (e:ws[i]? =some (.ref p)) (hp:h.get? p=some (qy [.str k t,v] n))
structure Lw (prog:Program) (w:World) (h0:Heap) (l I d:Addr) (ws:List Value) (es:List (Str×Value)) (i:Nat) (h:Heap):Prop where
 lst:h.IsList l ws.toArray
 it:h.IsListIter I l i
 uq:h.DictOf (strKind prog w) d (merged [] (es.take i))
 old:∀b o,b≠I->b≠d->h0.get? b=some o->h.get? b=some o
theorem wG {R:Result->Shared->Prop} {l I d:Addr} {ws:List Value} {es:List (Str×Value)} {h0:Heap} (hh:A.handled=none) (hz:es.length≤1000) (hlen:ws.length=es.length) (hI:h0.get? I=none) (hd0:h0.get? d=none) (hId:I≠d) (hlI:l≠I) (hld:l≠d)
 (pr:∀i k v,es[i]? =some (k,v)->cP h0 ws i k v):∀(k i:Nat) (s:Shared),i+k=es.length->Lw prog w h0 l I d ws es i s.heap->
  (∀h' k',(∀b o,b≠I->b≠d->h0.get? b=some o->h'.get? b=some o)->h'.DictOf (strKind prog w) d (merged [] es)->R (.ok (.ret .none)) {s with heap:=h',toks:=k'})->
  codeAny (model prog w) A (.builtin "dict.update.loop" ⟨[.ref d,.ref I,rawInt i,.none],[]⟩) R s:=by
 intro k
 induction k with
 |zero=>
  intro i s hk q hR
  obtain rfl:i=es.length:=hk
  refine codeAny_builtin S2 ?_
  rw[Around.under_plainId D3 _]
  show wpAny _ A.in1 (pyNext (.ref I) >>= _) _ _ s
  refine OL (wpAny_pyNext_list_end hh q.it q.lst ((List.getElem?_toArray ..).trans (List.getElem?_eq_none (Nat.le_of_eq hlen))) λh' he=>?_)
  have hd:=q.uq
  rw[List.take_length]at hd
  obtain⟨o,e1,e2,e3,e4⟩:=hd
  exact OL (OM (OM (hR h' _ (λb o' n1 n2 e=>he b o' n1 (q.old b o' n1 n2 e)) ⟨o,e1,e2,he d o (Ne.symm hId) e3,e4⟩)))
 |succ k ih=>
  intro i s hk q hR
  have hlt:i < es.length:=hk▸Nat.lt_add_of_pos_right (Nat.succ_pos k)
  have e:=Pb hlt
  obtain⟨p,t,n,hw,hp⟩:=pr i es[i].1 es[i].2 e
  have hpI:p≠I:=λz=>d0 hI (z▸hp)
  have hpd:p≠d:=λz=>d0 hd0 (z▸hp)
  refine codeAny_builtin S2 ?_
  rw[Around.under_plainId D3 _]
  show wpAny _ A.in1 (pyNext (.ref I) >>= _) _ _ s
  refine OL (wpAny_pyNext_list_item (x:=.ref p) q.it q.lst ((List.getElem?_toArray ..).trans hw) λh' hit' hs'=>?_)
  have hop:=(hs'.2 p hpI).trans (q.old p _ hpI hpd hp)
  refine OL (Pd (OL (wpAny_tryCatch ?_)))
  show wpAny _ _ (Builtin.Dict.pairItems (.ref p)) _ _ _
  unfold Builtin.Dict.pairItems
  refine OL (wpAny_typeOf (T:="tuple") ⟨_,hop,rfl⟩ (bm_if_true (by decide) (OL ?_)))
  unfold seqItems?
  refine OL (wpAny_load hop (OM (OM ?_)))
  show wpAny _ _ (holding [.str es[i].1 t,es[i].2] (dictSet d (.str es[i].1 t) es[i].2)) _ _ _
  have hm:=merged_length_le [] (es.take i)
  have e2:merged [] (es.take (i+1))=stored (merged [] (es.take i)) es[i].1 es[i].2:=merged_take_succ [] es i _ e
  exact Pd (wpAny_dictSet_pairs (knd:=strKind prog w) (k:=es[i].1) (isStrOf_self _ t) (q.uq.sameBut hs' (Ne.symm hId)) (λh2 hd2 hs2=>OM ⟨plainId_quiet D3 _,
   ih (i+1) _ ((Nat.add_right_comm ..).trans hk) ⟨(q.lst.extBut hs'.extBut hlI).extBut hs2.extBut hld,hit'.extBut hs2.extBut hId,e2▸hd2,λb o n1 n2 eb=>(hs2.2 b n2).trans ((hs'.2 b n1).trans (q.old b o n1 n2 eb))⟩ hR⟩)
   (bp (OV hm (OV (Nat.le_of_eq (Nat.zero_add _)) (OV (List.length_take_le' ..) hz)))))
theorem dE {l:Addr} {ws:List Value} {es:List (Str×Value)} {Q:Value->Shared->Prop} {n:Nat} (hh:A.handled=none) (hl:s.heap.get? l=some (CY ws n)) (hz:es.length≤1000) (hlen:ws.length=es.length) (pr:∀i k v,es[i]? =some (k,v)->cP s.heap ws i k v)
 (h:∀h' k,(∀b o,s.heap.get? b=some o->h'.get? b=some o)->h'.DictOf (strKind prog w) s.heap.objs.size (merged [] es)->Q (.ref s.heap.objs.size) {s with heap:=h',toks:=k}):
 wpAny (model prog w) A (call (.type "dict") [.ref l]) Q E s:=by
 refine callType_codes (Q₁:=λobj c5=>obj=.ref s.heap.objs.size∧c5={s with heap:=s.heap.push {cls:=.type "dict",data:=.dict #[]}}) F.kt_called_dict (F.kt_typeCall_dict_1 _) F.entry_dict_init (kt_code_dict_new _ ⟨rfl,rfl⟩) ?_
 rintro obj c5 ⟨rfl,rfl⟩
 have hnew:(s.heap.push {cls:=.type "dict",data:=.dict #[]}).DictOf (strKind prog w) s.heap.objs.size []:=Heap.DictOf.new s.heap
 have hl':(s.heap.push {cls:=.type "dict",data:=.dict #[]}).get? l=some (CY ws n):=OT _ hl
 refine⟨hnew.typeIs,F.args_dict_init_2 _ _,?_⟩
 unfold Builtin.«dict.__init__»
 refine OL ?_
 unfold Builtin.Dict.selfAndRest
 refine OL (wpAny_notOrdered_dict hnew.typeIs ?_)
 show wpAny _ _ (pure (s.heap.objs.size,[Value.ref l])) _ _ _
 refine OM ?_
 show wpAny _ _ (Builtin.Dict.updateFrom "dict.__init__" s.heap.objs.size (.ref l) [] .none) _ _ _
 unfold Builtin.Dict.updateFrom
 refine OL (wpAny_typeOf (T:="list") ⟨_,hl',rfl⟩ ?_)
 rw[Pp (by decide)]
 refine OL (iB hl' hh λh2 tk hk2=>?_)
 refine bm_if_true rfl (OL (wpAny_rule ?_))
 have hl2:=hk2 _ _ hl'
 have hd2:=hk2 _ _ (show(s.heap.push {cls:=.type "dict",data:=.dict #[]}).get? s.heap.objs.size=some {cls:=.type "dict",data:=.dict #[]}from OU _ rfl)
 have hdlt:=Pu hd2
 refine OL (wpAny_pyIter_list (R6.list ⟨n,hl2⟩) (OM ⟨plainId_quiet D3 _,?_⟩))
 have k1:∀b o,(s.heap.push {cls:=.type "dict",data:=.dict #[]}).get? b=some o->(h2.push {cls:=.type "list_iterator",data:=.fields #[.ref l,.int 0 0]}).get? b=some o:=λb o e=>OT _ (hk2 b o e)
 have nI:∀b o,s.heap.get? b=some o->b≠h2.objs.size∧b≠s.heap.objs.size:=λb o e=>⟨Nat.ne_of_lt (Nat.lt_trans (Pu e) hdlt),Nat.ne_of_lt (Pu e)⟩
 have hI:s.heap.get? h2.objs.size=none:=by
  induction q:s.heap.get? h2.objs.size with
  |none=>rfl
  |some o=>exact absurd rfl (nI _ _ q).1
 refine wG (A:=A.in1) hh hz hlen hI (none_at_size _) (Nat.ne_of_gt hdlt) (nI _ _ hl).1 (nI _ _ hl).2 pr es.length 0 _ (Nat.zero_add _) ?_ λh' k' hk' hd'=>?_
 ·exact⟨(R6.list ⟨n,hl2⟩).push _,⟨_,OU _ rfl,rfl,rfl⟩,B7 hnew (k1 _),λb o J J e=>k1 b o (OT _ e)⟩
 ·exact⟨rfl,h h' k' (λb o e=>hk' b o (nI b o e).1 (nI b o e).2 e) hd'⟩
end
section
variable {w:Value}
theorem all1 {d D:Addr} {p:Addr->Prop} (h:p D) (q:d∈[D]):p d:=OX q▸h
theorem KV.made {D:Addr} {h':Heap} {t:Nat} (c:d9 T W U Y s.heap) (hk:∀b o,s.heap.get? b=some o->h'.get? b=some o) (hn:s.heap.get? D=none) (q:M0 T (W.add [D]) U h' D v) (k:KV T W U s Q v Y):Q (.ref D) {s with heap:=h',toks:=t}:=
 have nn:∀d,d∈[D]->s.heap.get? d=none:=λd hd=>all1 (p:=λd=>s.heap.get? d=none) hn hd
 have r:=c.adopt hk nn (λd hd=>all1 (p:=λd=>∃o,h'.get? d=some o) q.there hd)
 have g:s8 s W (W.add [D]):=s8.add nn
 k _ _ _ (i4.keeps c hk) (q.vr (g.ms h') (cb c.o5 g r (.head _) hn)) λJ=>⟨D,W.add [D],hn,g,.head _,r,q⟩
@[elab_as_elim] theorem z1.two_el {G:List Value->Prop} {p q:V} {ws:List Value} (x:z1 T U bad h [p,q] ws) (k:∀w u,VS T U bad h p w->solid q=true->VS T U bad h q u->G [w,u]):G ws:=by
 cases x with|cons _ w _ us _ a r=>cases r with|cons _ u _ us g b r=>cases r;exact k w u a g b
inductive OA (T:i7) (U:List Addr) (bad:Addr->Prop) (h:Heap) (ws:List Value) (ps:List (Txt×V)):Prop
 |mk (es:List (Str×Value)) (r:J8 T U bad h i3 ps es) (l:ws.length=es.length) (k:∀i k v,es[i]? =some (k,v)->cP h ws i k v)
theorem cP.tail {ws:List Value} {i:Nat} {k:Str} {v:Value} (x:cP h ws i k v):cP h (w::ws) (i+1) k v:=match x with|⟨p,t,n,e,hp⟩=>⟨p,t,n,e,hp⟩
theorem yP {xs:List V} {ws:List Value} (q:z1 T U bad h xs ws):∀ps,dI xs=some ps->OA T U bad h ws ps:=
 q.aO (λb e=>ON e▸⟨[],.nil,rfl,λi k v e=>nomatch e⟩) λv w vs ws g a q ih b e=>a0 e λu eu e=>a0 e λp ep e=>a0 e λx ex e=>d8 e λy ey e=>match ih y ey with
  |⟨es,r,l,k⟩=>E7 (.mk (f7:=bad) _ _ a) eu λad us ⟨n,hl⟩ J r2=>by
   subst e
   obtain rfl:=two1_eq ep
   revert hl
   refine r2.two_el λw1 w2 a1 g2 a2=>n8 (.mk (f7:=bad) _ _ a1) ex λt ha hl=>⟨(i3 x,w2)::es,.cons (p:=(x,p.2)) g2 a2 r,OY (· +1) l,λi k' v' e=>?_⟩
   induction i with
   |zero=>cases e;exact⟨ad,t,n,rfl,hl⟩
   |succ i=>exact(k i k' v' e).tail
theorem Ee (tk:E5 T P) (c:d9 T W U Y s.heap) (hh:A.handled=none) {xs:List V} {ps:List (Txt×V)} (hv:C5 T W U s.heap v w) (e1:E3 v=some xs) (hz:Nat.ble xs.length 1000=true) (e:dI xs=some ps) (k:KV T W U s Q (.E2 (z7 [] ps)) Y):wpAny (model T.prog T.w) A (call (.type "dict") [w]) Q E s:=
 VR.z0 hv e1 λa ws ⟨n,l⟩ J q=>match yP q ps e with
  |⟨es,h1,h2,h3⟩=>dE hh l (h2▸q.length▸OO hz) h2 h3 λh' kk hk hd=>
   KV.made c hk (none_at_size _) (.d _ ((h1.qL .nil).ms (bH hk λd hd=>all1 (p:=λd=>s.heap.get? d=none) (none_at_size _) hd)|>.uq hd (O1 tk c))) k
end
end Mine
end
section
open PySem PySem.W PyProof.Rows PySem.Calls PySem.Spec
namespace Mine
theorem M4 {a:Txt}:∀{b:Txt},zq a b=true↔a < b:=by
 induction a with
 |nil=>
  intro b
  induction b with
  |nil=>exact⟨λh=>Bool.noConfusion h,λh=>absurd h (List.lt_irrefl _)⟩
  |cons=>exact⟨λJ=>.nil,λJ=>rfl⟩
 |cons x r ih=>
  intro b
  induction b with
  |nil=>exact⟨λh=>Bool.noConfusion h,λh=>nomatch h⟩
  |cons y t=>exact Bool.or_eq_true_iff.trans ((or_congr (iff_of_eq Nat.ble_eq) (Bool.and_eq_true_iff.trans (and_congr (iff_of_eq Nat.beq_eq) ih))).trans (List.cons_lt_cons_iff (a:=x) (b:=y) (l₁:=r) (l₂:=t)).symm)
theorem qo {a b:Txt} (h:zq a b=false):b≤a:=λq=>Bool.noConfusion (h.symm.trans (M4.mpr q))
theorem eU {a b:Txt} (h:zq a b=true):a≤b:=List.le_of_lt (M4.mp h)
abbrev Up (l:List Txt):Prop:=l.Pairwise λa b=>a≤b
noncomputable def Q8 (x:Str):Txt:=x.cps.toList
theorem gS (l:List Txt):(l.map i3).map Q8=l:=by rw[List.map_map];exact List.map_id l
theorem nq (l:List Str):(l.map Q8).map i3=l:=by rw[List.map_map];exact List.map_id l
theorem vn {ss:List Str}:∀{p:Str},risingS p ss=true->Up ((p::ss).map Q8):=by
 induction ss with
 |nil=>exact λJ=>List.pairwise_singleton _ _
 |cons x r ih=>
  intro p h
  exact a7 (show(!ltCps x.cps.toList p.cps.toList&&risingS x r)=true from h) λh1 h2=>
  have k:=ih h2
  have h3:Q8 p≤Q8 x:=List.not_lt.mp (of_decide_eq_false ((ltCps_eq ..).symm.trans (not_true h1)))
  List.pairwise_cons.mpr ⟨λy hy=>(OW hy).elim (λe=>e▸h3) λhy=>List.le_trans h3 ((List.pairwise_cons.mp k).1 y hy),k⟩
theorem iY {ss:List Str} (h:sortedS ss=true):Up (ss.map Q8):=by
 induction ss with
 |nil=>exact .nil
 |cons x r=>exact vn h
theorem vg {ss:List Str} {ks:List Txt} (hs:sortedS ss=true) (hk:Up ks) (hp:ss.Perm (ks.map i3)):ss=ks.map i3:=by
 have e:ss.map Q8=ks:=List.Perm.eq_of_pairwise (λJ J J J=>List.le_antisymm) (iY hs) hk (gS ks▸hp.map Q8)
 rw[←e,nq]
theorem oG {k:Txt} {l:List Txt}:(oH k l).Perm (k::l):=by
 induction l with
 |nil=>exact .refl _
 |cons q r ih=>
  show List.Perm (bif zq k q then k::q::r else q::oH k r) _
  induction zq k q with
  |true=>exact .refl _
  |false=>exact(ih.cons q).trans (.swap ..)
theorem zQ {k:Txt} {l:List Txt} (h:Up l):Up (oH k l):=by
 induction h with
 |nil=>exact List.pairwise_singleton _ _
 | @cons q r h1 h2 ih=>
  show Up (bif zq k q then k::q::r else q::oH k r)
  cases e:zq k q with
  |true=>exact .cons (λx hx=>(OW hx).elim (λz=>z▸eU e) λhx=>List.le_trans (eU e) (h1 x hx)) (.cons h1 h2)
  |false=>exact .cons (λx hx=>(OW (oG.mem_iff.mp hx)).elim (λz=>z▸qo e) (h1 x)) ih
theorem iZ {ks:List Txt}:∀{l:List Txt},Up l->Up (ks.foldl (λl k=>oH k l) l)∧(ks.foldl (λl k=>oH k l) l).Perm (ks++l):=by
 induction ks with
 |nil=>exact λh=>⟨h,.refl _⟩
 |cons k ks ih=>exact λ{l} h=>⟨(ih (zQ h)).1,(ih (zQ h)).2.trans ((oG.append_left ks).trans List.perm_middle)⟩
theorem Ce {ks:List Txt}:Up (tj ks):=(iZ .nil).1
theorem vh {ks:List Txt}:(tj ks).Perm ks:=(iZ (ks:=ks) .nil).2.trans (.of_eq (Pl ks))
variable {A:Around} {E:Value->Shared->Prop} {s:Shared}
section
variable {prog:Program} {w:World}
theorem qC {vs:List Value}:∀{ks:List (Str×Value)},vs.length=ks.length->(∀(j:Nat) (v:Value),vs[j]? =some v->∃k x,ks[j]? =some (k,x)∧(PySem.strKind prog w).is k v=true)->StrsAre vs (ks.map (·.1)):=by
 induction vs with
 |nil=>exact λ{ks} e J=>by induction ks with|nil=>exact .nil|cons _ _=>cases e
 |cons v vs ih=>
  intro ks e hv
  induction ks with
  |nil=>cases e
  |cons p ks=>
   obtain⟨k,x,e1,e2⟩:=hv 0 v rfl
   cases e1
   obtain⟨t,rfl⟩:=Value.isStrOf_shape e2
   exact .cons _ t (ih (Nat.succ.inj e) λj v hj=>hv (j+1) v hj)
theorem nJ {d:Addr} {kws:List (Str×Value)} {Q:Value->Shared->Prop} (hh:A.handled=none) (lo:(d == sysModules)=false) (hd:s.heap.DictOf (PySem.strKind prog w) d kws) (h64:kws.length < 64)
 (h:∀h' tk D (ws:List Value) ss,(∀b o,s.heap.get? b=some o->h'.get? b=some o)->s.heap.get? D=none->R6 h' D ws->StrsAre ws ss->ss.Perm (kws.map (·.1))->sortedS ss=true->Q (.ref D) {s with heap:=h',toks:=tk}):
 wpAny (model prog w) A (call (.builtin "sorted") [.ref d]) Q E s:=by
 obtain⟨ep,hat⟩:=hd.dictAt
 have hz:kws.length≤sizeLine:=bp (OV (Nat.le_of_lt h64) (by decide))
 refine call_function_entry kind_sorted plain_sorted entry_sorted (args_sorted1 _) ?_
 unfold Builtin.«sorted»
 refine OL (m:=checkCount "sorted" 1 1 _) (OM ?_)
 refine OL (kdu_collect (A:=A.in1) (kdl_dict (knd:=PySem.strKind prog w) (kvs:=kws) (ep:=ep) lo) hh hat hz λh' tk acc hk hacc=>?_)
 have hl:acc.toList.length=kws.length:=Array.length_toList.trans hacc.1
 refine OL (wpAny_newList ?_ (by rw[hl];exact hz))
 have hS:StrsAre acc.toList (kws.map (·.1)):=qC hl λj v e=>hacc.2 j v (Array.getElem?_toList▸e)
 have ho:(h'.push {cls:=.type "list",data:=.seq acc.toList.toArray}).get? h'.objs.size=some (seqObj "list" acc.toList.toArray 0):=OU _ rfl
 refine OL (Pd (wpAny_call_entry slot_list_sort ⟨_,ho,rfl⟩ PyProof.Rows.entry_list_sort (list_sort_treeK strKind_oneLt ho hS.keysOf (λOe Od rest e=>keyKind_strs (e▸hS)) (hl▸h64) λst' hp hs=>⟨_,rfl,?_⟩) (args_list_sort _)))
 refine OM ⟨_,rfl,?_⟩
 obtain⟨ss',h1,h2,h3⟩:=sorted_out_str hS hp hs
 obtain⟨e,he⟩:=sortedHeap_at (out:=(arrOf st').map (·.2)) ho
 have hn:s.heap.get? h'.objs.size=none:=by
  induction q:s.heap.get? h'.objs.size with
  |none=>rfl
  |some o=>exact d0 (none_at_size h') (hk _ o q)
 exact h _ _ _ _ ss' (λb o e=>(sortedHeap_old (λz=>d0 hn (z▸e)) (Pu (OT _ (hk b o e)))).trans (OT _ (hk b o e))) hn ⟨e,he.trans (OY (λx=>some (seqObj "list" x e)) (Array.toArray_toList ..).symm)⟩ h1 h2 h3
end
section
variable {T:i7} {P:Pg} {W:r9} {U:List Addr} {Y:Hp} {Q:Value->Shared->Prop} {h:Heap} {bad f7:Addr->Prop} {v r:V} {w:Value}
theorem yj {ks:List Txt}:∀{ws:List Value},ks.all t6=true->StrsAre ws (ks.map i3)->z1 T U bad h (ks.map V.str) ws:=by
 induction ks with
 |nil=>exact λJ x=>by cases x;exact .nil
 |cons k ks ih=>exact λhk x=>a7 hk λh1 h2=>by cases x with|cons _ t q=>exact .cons _ _ _ _ rfl (.G4 _ _ (.str k t h1)) (ih h2 q)
theorem cL (c:d9 T W U Y s.heap) (hh:A.handled=none) {d:Addr} {kws:List (Str×Value)} {ks:List Txt} (lo:(d == sysModules)=false) (hd:s.heap.DictOf (PySem.strKind T.prog T.w) d kws) (hp:(kws.map (·.1)).Perm (ks.map i3)) (hr:Up ks)
 (e:LQ ks=some r) (k:KV T W U s Q r Y):wpAny (model T.prog T.w) A (call (.builtin "sorted") [.ref d]) Q E s:=
 i9 e λg e=>a7 g λg1 g2=>nJ hh lo hd (by rw[←OZ (f:=(·.1)),hp.length_eq,OZ];exact OO g1) λh' tk D ws ss hk hn hl hs hp' hss=>
  KV.made (v:=.g6 (ks.map .str)) c hk hn (.l _ ws hl (yj g2 (vg hss hr (hp'.trans hp)▸hs))) (e▸k)
theorem cT {kws:List (Str×Value)} {k:Str}:(valueAt kws k).isSome=true↔k∈kws.map (·.1):=by
 induction kws with
 |nil=>exact⟨λh=>Bool.noConfusion h,λh=>nomatch h⟩
 |cons p r ih=>
  rw[show p=(p.1,p.2)from rfl,i6,List.map_cons,List.mem_cons]
  by_cases e:p.1=k
  ·rw[Pp e];exact⟨λJ=>.inl e.symm,λJ=>rfl⟩
  ·rw[Pq e,ih];exact⟨.inr,λh=>h.elim (λz=>absurd z.symm e) id⟩
theorem uQ {l:List Txt} (h:l.Nodup):(l.map i3).Nodup:=List.Pairwise.map i3 (λJ J q z=>q (dH z)) h
structure Bm (T:i7):Prop where
 up:sortedS (T.univ.map i3)=true
 nodup:T.univ.Nodup
theorem aZ (u:Bm T) {d:Addr} {kws:List (Str×Value)} {f:Txt->Option V} (hd:h.DictOf (PySem.strKind T.prog T.w) d kws) (r:∀k,B1 T U bad h (f k) (valueAt kws (i3 k))) (hu:∀p∈kws,∃k∈T.univ,p.1=i3 k):(kws.map (·.1)).Perm ((m9 T.univ f).map i3)∧Up (m9 T.univ f):=
 have eq:∀k,(valueAt kws (i3 k)).isSome=(f k).isSome:=λk=>(r k).isSome.trans (by induction f k<;>rfl)
 ⟨(List.perm_ext_iff_of_nodup (Q7 hd) (uQ (List.Pairwise.filter _ u.nodup))).mpr λx=>⟨λhx=>match List.mem_map.mp hx with
  |⟨p,hp,e⟩=>match hu p hp with|⟨k,hk,e2⟩=>List.mem_map.mpr ⟨k,List.mem_filter.mpr ⟨hk,(eq k).symm.trans (cT.mpr (e2.symm.trans e▸hx))⟩,e2.symm.trans e⟩,
  λhx=>match List.mem_map.mp hx with|⟨k,hk,e⟩=>e▸cT.mp ((eq k).trans (List.mem_filter.mp hk).2)⟩,
 List.Pairwise.filter _ (gS T.univ▸iY u.up)⟩
theorem sy (u:Bm T) (tk:E5 T P) (c:d9 T W U Y s.heap) (hh:A.handled=none) (hv:C5 T W U s.heap v w) (e:pN P v Y=some r) (k:KV T W U s Q r Y):wpAny (model T.prog T.w) A (call (.builtin "sorted") [w]) Q E s:=
 i0 e (λe=>a0 e λi ei e=>a0 e λo eo e=>A9 hv ei λa ha=>c.at eo λa' ha' q=>by
  rw[ON (ha'.symm.trans ha)]at q
  exact i0 e (λe=>a0 e λf ef e=>by
   rw[H5 ef]at q
   rw[tk.fF]at e
   exact match q with|⟨kws,hd,hs,r,hu⟩=>cL c hh hs hd (aZ u hd r hu).1 (aZ u hd r hu).2 e k) λe=>d8 e λJ ef e=>by
   rw[W7 ef]at q
   exact match q with|⟨j,hs,ho⟩=>cL (ks:=[]) c hh hs (v3 _ ho) (.refl _) .nil rfl (e▸k)) λe=>
 a0 e λkvs ek e=>VR.U2 hv ek λa d=>d.Bt λkws hd hs q=>cL c hh hs hd (ks:=tj (kvs.map (·.1))) (by rw[q.e];exact(List.map_map (f:=Prod.fst) (g:=i3))▸vh.symm.map i3) Ce e k
structure TN (T:i7) (P:Pg):Prop extends TM T P where
 sS:Bm T
theorem Le (tn:TN T P) (c:d9 T W U Y s.heap) (hh:A.handled=none) {b:Bi} {vs:List V} {ws:List Value} (x:xu T W U s.heap vs ws) (e:I5 P b vs Y=some r) (k:KV T W U s Q r Y):wpAny (model T.prog T.w) A (call (T.bi b) ws) Q E s:=by
 rw[tn.LV]
 induction b with
 |len=>exact a0 e λv ev e=>x.one (G:=λws=>wpAny _ _ (call (AX .len) ws) Q E s) ev λw hv=>Ir c hv e k
 |isinstance=>exact a0 e λv ev e=>a0 e λb eb e=>d8 e λt et e=>x.two (G:=λws=>wpAny _ _ (call (AX .isinstance) ws) Q E s) ev λw u hv hu=>(by
  rw[mx eb]at hu
  exact hu.Fy (tn.LV b▸iP c hv et (e▸k)))
 |sorted=>exact a0 e λv ev e=>x.one (G:=λws=>wpAny _ _ (call (AX .sorted) ws) Q E s) ev λw hv=>sy tn.sS tn.toE5 c hh hv e k
 |all=>exact a0 e λv ev e=>a0 e λxs ex e=>d8 e λb eb e=>x.one (G:=λws=>wpAny _ _ (call (AX .all) ws) Q E s) ev λw hv=>Iu c hh hv ex eb (e▸k)
 |sum=>exact a0 e λv ev e=>a0 e λxs ex e=>d8 e λb eb e=>x.one (G:=λws=>wpAny _ _ (call (AX .sum) ws) Q E s) ev λw hv=>Iq c hh hv ex eb (e▸k)
 |bytes=>exact a0 e λv ev e=>x.one (G:=λws=>wpAny _ _ (call (AX .bytes) ws) Q E s) ev λw hv=>i0 e (λe=>d8 e λb eb e=>F6 hv eb λa t ha=>cJ (KV.G4 c (.bytes b a t ha) rfl (e▸k))) λe=>a0 e λxs ex e=>a0 e λys ey e=>d8 e λb eb e=>i9 ey λg ey=>xi c hh hv ex g (ey▸eb) (e▸k)
 |dict=>exact a0 e λv ev e=>x.one (G:=λws=>wpAny _ _ (call (AX .dict) ws) Q E s) ev λw hv=>a0 e λxs ex e=>a0 e λys ey e=>d8 e λb eb e=>i9 ey λg ey=>Ee tn.toE5 c hh hv ex g (ey▸eb) (e▸k)
 |int=>exact a0 e λv ev e=>d8 e λb eb e=>x.one (G:=λws=>wpAny _ _ (call (AX .int) ws) Q E s) ev λw hv=>It c hv eb (e▸k)
 |bool=>exact ns e
end
end Mine
end
section
open PySem PySem.W PyProof.Rows PySem.Calls
namespace Mine
structure Mb (T:i7) (P:Pg) (W:r9) (U:List Addr) (s:Shared) (c7:Hp) (d7:List Addr) (s':Shared) (A:Around) (vs:List V) (ws:List Value):Prop where
 out:i4 T W U s c7 d7 s'
 Cv:ie T W U s c7 d7 s' vs ws
 o5:BC T W U s.heap
 hh:A.handled=none
 hu:A.units+30 < cLine
def Z3 (T:i7) (P:Pg) (ov:V) (wo:Value) (mm:Nat) (bid:String):Prop:=∀{W:r9} {U:List Addr} {s:Shared} {c7:Hp} {d7:List Addr} {s':Shared} {A:Around} {vs:List V} {ws:List Value} {Q E:Value->Shared->Prop},
 Mb T P W U s c7 d7 s' A vs ws->C5 T W d7 s'.heap ov wo->(ou P.univ ov mm vs c7).c4 (KV T W U s Q) (XV T W U s E)->wpAny (model T.prog T.w) A (call (.builtin bid) (wo::ws)) Q E s'
variable {T:i7} {P:Pg} {W:r9} {U d7:List Addr} {s s':Shared} {Y c7:Hp} {A:Around} {Q E:Value->Shared->Prop} {h:Heap} {v:V} {w:Value} {vs:List V} {ws:List Value} {a:Addr}
section
theorem Mb.uL (i:Mb T P W U s c7 d7 s' A vs ws):xu T W d7 s'.heap vs ws:=i.Cv.vr i.o5
theorem KV.put {u3:Hp} {aE:List Addr} {s'':Shared} (o:i4 T W U s c7 d7 s') (k:KV T W U s Q v u3) (o':i4 T W d7 s' u3 aE s'') (hv:eP T W aE s''.heap v w) (g:solid v=true):Q w s'':=k _ _ _ (o.trans o') (.mk _ _ hv) (G1.not (P2 g))
theorem KV.nothing {u3:Hp} {aE:List Addr} {s'':Shared} (o:i4 T W U s c7 d7 s') (k:KV T W U s Q .none u3) (o':i4 T W d7 s' u3 aE s''):Q .none s'':=k.put o o' (.G4 _ _ .none) rfl
theorem Jz {o:Option V} {x:Option Value} {t:Nat} {bad:Addr->Prop} (c:d9 T W U Y s.heap) (q:B1 T U (k9 T W U) s.heap o x) (k:KV T W U s Q (o.getD .none) Y):Q (x.getD .none) {s with toks:=t}:=by
 induction q with
 |none=>exact k.here c (.mk _ _ (.G4 _ _ .none)) rfl
 |some v w g a=>exact KV.vs c a g k
theorem kA {k:Txt} {G:List Value->Prop} (x:xu T W U h vs ws) (e:(y0 vs).bind r6=some k) (kk:∀t,t6 k=true->G [.str (i3 k) t]):G ws:=a0 e λv ev e=>x.one ev λw hw=>n8 hw e λt a=>kk t a
theorem ny {k:Txt} {G:List Value->Prop} (x:xu T W U h vs ws) (e:((two1 vs).bind λq=>(F8 q.2).bind λJ=>r6 q.1)=some k) (kk:∀t,t6 k=true->G [.str (i3 k) t,.none]):G ws:=
 a0 e λv ev e=>a0 e λJ en e=>x.two ev λw u hw hu=>I9 hu en (n8 hw e λt a=>kk t a)
section
variable {kws:List (Str×Value)} {k:Txt} {t:Tok} (hd:s.heap.DictOf (strKind T.prog T.w) a kws) (lo:(a == sysModules)=false)
include hd lo
theorem HU (h:Q ((valueAt kws (i3 k)).getD .none) {s with toks:=s.toks+1}):wpAny (model T.prog T.w) A (call (.builtin "dict.get") [.ref a,.str (i3 k) t]) Q E s:=
 call_meetsIn PySem.F.slot_dict_get hd.typeIs PySem.F.entry_dict_get (PySem.F.args_dict_get_2 _ _) (meets_dict_get (knd:=strKind T.prog T.w) (k:=i3 k) (key:=.str (i3 k) t) (d:=a) (isStrOf_self (i3 k) t) lo) ⟨_,hd.mapOf,h⟩
theorem KO {d:Value} (h:Q ((valueAt kws (i3 k)).getD d) {s with toks:=s.toks+1}):wpAny (model T.prog T.w) A (call (.builtin "dict.get") [.ref a,.str (i3 k) t,d]) Q E s:=
 call_meetsIn PySem.F.slot_dict_get hd.typeIs PySem.F.entry_dict_get (PySem.F.args_dict_get_3 _ _ _) (meets_dict_get_default (knd:=strKind T.prog T.w) (k:=i3 k) (key:=.str (i3 k) t) (d:=a) (isStrOf_self (i3 k) t) lo d) ⟨_,hd.mapOf,h⟩
theorem Fn (e:valueAt kws (i3 k)=none) (h:Q .none {s with toks:=s.toks+1}):wpAny (model T.prog T.w) A (call (.builtin "dict.pop") [.ref a,.str (i3 k) t,.none]) Q E s:=
 call_meetsIn PySem.F.slot_dict_pop hd.typeIs PySem.F.entry_dict_pop (PySem.F.args_dict_pop_3 _ _ _) (meets_dict_pop_default (k:=i3 k) (key:=.str (i3 k) t) (strKind T.prog T.w) a (isStrOf_self (i3 k) t) lo rfl .none) ⟨_,hd,e,h⟩
end
theorem dy {kws:List (Str×Value)} {k q:Str}:valueAt (without kws k) q=if q=k then none else valueAt kws q:=by
 induction kws with
 |nil=>exact(ite_self _).symm
 |cons p r ih=>
  rw[show p=(p.1,p.2)from rfl,i6]
  have hw:without ((p.1,p.2)::r) k=if p.1=k then without r k else(p.1,p.2)::without r k:=by
   unfold without
   rw[List.filter_cons]
   by_cases e:p.1=k
   ·rw[Pp e,decide_eq_false (λz=>z e)];rfl
   ·rw[Pq e,decide_eq_true e];rfl
  rw[hw]
  by_cases e:p.1=k
  ·rw[Pp e,ih]
   by_cases e2:q=k
   ·rw[Pp e2,Pp e2]
   ·rw[Pq e2,Pq e2,Pq λz=>e2 (z.symm.trans e)]
  ·rw[Pq e,i6,ih]
   by_cases e2:q=k
   ·rw[Pp e2,Pp e2,Pq λz=>e (z.trans e2)]
   ·rw[Pq e2,Pq e2]
theorem eD {f:Txt->Option V} {kws kws':List (Str×Value)} {k:Txt} {bad:Addr->Prop} (r:∀k,B1 T U bad h (f k) (valueAt kws (i3 k))) (hw:∀q,valueAt kws' q=if q=i3 k then none else valueAt kws q) (q:Txt):B1 T U bad h (t9 f k none q) (valueAt kws' (i3 q)):=by
 rw[hw]
 show B1 T U bad h (bif r5 k q then none else f q) _
 rw[D2]
 by_cases e:i3 k=i3 q
 ·rw[Pp e.symm,decide_eq_true e];exact .none
 ·rw[Pq λz=>e z.symm,decide_eq_false e];exact r q
theorem Fm (tk:E5 T P) (c:d9 T W U Y s.heap) {l:Nat} {f:Txt->Option V} {k:Txt} {t:Tok} {rest:List Value} {v:V} (ha:U[l]? =some a) (q:IH T W U s.heap a f) (ar:argsOk "dict.pop" ⟨.ref a::.str (i3 k) t::rest,[]⟩) (hr:rest=[]∨∃d,rest=[d]) (e:f k=some v)
 (kk:∀w s',i4 T W U s (Y.set l (.map (t9 f k none))) U s'->eP T W U s'.heap v w->solid v=true->Q w s'):wpAny (model T.prog T.w) A (call (.builtin "dict.pop") (.ref a::.str (i3 k) t::rest)) Q E s:=match q with
 |⟨kws,hd,hs,r,u⟩=>B1.W4 (e▸r k) λw ew g av=>call_meetsIn PySem.F.slot_dict_pop hd.typeIs PySem.F.entry_dict_pop ar (meets_dict_pop_there (k:=i3 k) (key:=.str (i3 k) t) (strKind T.prog T.w) a (isStrOf_self (i3 k) t) rest hr rfl) ⟨kws,w,hd,bp (OV (dW hd u) tk.small),ew,λh' hd' hs'=>
  have ms:=Z6 (T:=T) (W:=W) ha hs'
  have o:i4 T W U s (Y.set l (.map (t9 f k none))) U {s with heap:=h',toks:=s.toks+1}:=i4.Z7 (o':=.map (t9 f k none)) c ha hs' ⟨_,hd',hs,eD (λk=>(r k).ms ms) λq=>dy,λp hp=>u p (List.mem_filter.mp hp).1⟩
  kk w _ o (o.ext.vs av) g⟩
theorem KH (tk:E5 T P) (c:d9 T W U Y s.heap) {l:Nat} {f:Txt->Option V} {k:Txt} {t:Tok} (ha:U[l]? =some a) (q:IH T W U s.heap a f)
 (kk:∀v w s',(f k).getD .none=v->i4 T W U s (Y.set l (.map (t9 f k none))) U s'->eP T W U s'.heap v w->solid v=true->Q w s'):wpAny (model T.prog T.w) A (call (.builtin "dict.pop") [.ref a,.str (i3 k) t,.none]) Q E s:=by
 cases e:f k with
 |some v=>exact Fm tk c ha q (PySem.F.args_dict_pop_3 _ _ _) (.inr ⟨_,rfl⟩) e λw s'=>kk v w s' (by rw[e];rfl)
 |none=>exact match q with|⟨kws,hd,hs,r,u⟩=>Fn hd hs (r k |> λz=>(e▸z).aS) (kk .none .none _ (by rw[e];rfl) (i4.Z7 (h':=s.heap) (o':=.map (t9 f k none)) c ha ⟨rfl,λJ J=>rfl⟩ ⟨_,hd,hs,eD r λq=>by
  by_cases z:q=i3 k
  ·rw[Pp z,z];exact(e▸r k).aS
  ·rw[Pq z],u⟩) (.G4 _ _ .none) rfl)
theorem vq {bad:Addr->Prop} {ds:List (Txt×V)} {es:List (Str×Value)} (y:J8 T U bad h i3 ds es):∀{f:Txt->Option V} {kws:List (Str×Value)},ds.all (λp=>T.univ.any (r5 p.1))=true->(∀k,B1 T U bad h (f k) (valueAt kws (i3 k)))->(∀p∈kws,∃k∈T.univ,p.1=i3 k)->
 (∀k,B1 T U bad h (putAll f ds k) (valueAt (merged kws es) (i3 k)))∧∀p∈merged kws es,∃k∈T.univ,p.1=i3 k:=
 y.aO (Q:=λds es=>∀{f:Txt->Option V} {kws:List (Str×Value)},ds.all (λp=>T.univ.any (r5 p.1))=true->(∀k,B1 T U bad h (f k) (valueAt kws (i3 k)))->(∀p∈kws,∃k∈T.univ,p.1=i3 k)->
  (∀k,B1 T U bad h (putAll f ds k) (valueAt (merged kws es) (i3 k)))∧∀p∈merged kws es,∃k∈T.univ,p.1=i3 k) (λJ r u=>⟨r,u⟩) λp w ds es g a J ih J J hu r u=>a7 hu λh1 h2=>ih h2 (xI r g a) λp hp=>(cW hp).elim (λe=>match List.any_eq_true.mp h1 with|⟨u,hu,e2⟩=>⟨u,hu,e.trans (OY i3 (D1.mp e2))⟩) λ⟨q,hq,e⟩=>e▸u q hq
theorem tM {i:Mb T P W U s c7 d7 s' A vs ws} {l mm:Nat} {G:Prop} (ha:d7[l]? =some a) (h:(ou P.univ (.loc l) mm vs c7).c4 (KV T W U s Q) (XV T W U s E)) (k1:∀xs,Nr T W d7 s'.heap a xs->(EL l xs mm vs c7).c4 (KV T W U s Q) (XV T W U s E)->G)
 (k2:∀f,IH T W d7 s'.heap a f->(JR P.univ l f mm vs c7).c4 (KV T W U s Q) (XV T W U s E)->G) (k3:Nt s'.heap a->(JS mm vs c7).c4 (KV T W U s Q) (XV T W U s E)->G):G:=
 w7 h (λh=>a9 h λl' el h=>a9 h λob eo h=>by
  cases el
  exact i.out.rel.at eo λa' ha' q=>by
   obtain rfl:=ON (ha'.symm.trans ha)
   exact w7 h (λh=>a9 h λxs ex h=>by rw[O0 ex]at q;exact k1 xs q h) λh=>w7 h (λh=>a9 h λf ef h=>by rw[H5 ef]at q;exact k2 f q h) λh=>a9 h λJ ef h=>by rw[W7 ef]at q;exact k3 q h) λh=>False.elim h
theorem zo {l:Nat}:Z3 T P (.loc l) w aY "list.append":=λ{W U s c7 d7 s' A vs ws Q E} i hv h=>VR.A9 (G:=λw=>wpAny _ _ (call _ (w::ws)) _ _ _) hv λa ha=>tM (i:=i) ha h (λxs q h=>q8 h λg h=>a7 g λJ g=>a9 h λv ev h=>a0 ev λu eu ev=>i.uL.one (G:=λws=>wpAny _ _ (call _ (_::ws)) _ _ _) eu λwu hu=>match q with
 |⟨us,⟨n,ho⟩,q⟩=>append_at (hsz:=by rw[Ph,q.length];exact u7 g) ho λh' hs' ho'=>
  have ms:=Z6 (T:=T) (W:=W) ha hs'
  h.nothing i.out (i4.Z7 (o':=.list (xs++[v])) (t:=s'.toks) i.out.rel ha hs' ⟨us++[wu],⟨n+1,ho'.trans (OY (λx=>some ({cls:=.type "list",data:=.seq x (n+1)}:Obj)) (List.push_toArray us wu))⟩,(q.ms ms).append (.cons _ _ _ _ (C2 ev hu).1 ((C2 ev hu).2.ms ms) .nil)⟩)) (λf J h=>False.elim h) λJ h=>False.elim h
theorem JQ {l:Nat}:Z3 T P (.loc l) w fS "dict.get":=λ{W U s c7 d7 s' A vs ws Q E} i hv h=>VR.A9 (G:=λw=>wpAny _ _ (call _ (w::ws)) _ _ _) hv λa ha=>tM (i:=i) ha h (λJ J h=>False.elim h)
 (λf q h=>a9 h λk ek h=>kA (G:=λws=>wpAny _ _ (call _ (_::ws)) _ _ _) i.uL ek λt J=>match q with|⟨kws,hd,hs,r,_⟩=>HU hd hs (Jz (bad:=k9 T W d7) i.out.rel (r k) (h.step i.out)))
 λq h=>a9 h λk ek h=>kA (G:=λws=>wpAny _ _ (call _ (_::ws)) _ _ _) i.uL ek λt J=>match q with|⟨n,hs,ho⟩=>HU (v3 _ ho) hs (h.nothing i.out (i4.toks i.out.rel))
theorem JP (tk:E5 T P) {l:Nat}:Z3 T P (.loc l) w ro "dict.pop":=λ{W U s c7 d7 s' A vs ws Q E} i hv h=>VR.A9 (G:=λw=>wpAny _ _ (call _ (w::ws)) _ _ _) hv λa ha=>tM (i:=i) ha h (λJ J h=>False.elim h)
 (λf q h=>w7 h (λh=>a9 h λk ek h=>a9 h λv ev h=>kA (G:=λws=>wpAny _ _ (call _ (_::ws)) _ _ _) i.uL ek λt J=>Fm tk i.out.rel ha q (PySem.F.args_dict_pop_2 _ _) (.inl rfl) ev λw s'' o r g=>h.put i.out o r g)
  λh=>a9 h λk ek h=>ny (G:=λws=>wpAny _ _ (call _ (_::ws)) _ _ _) i.uL ek λt J=>KH tk i.out.rel ha q λv w s'' e o r g=>KV.put i.out (e▸h) o r g)
 λq h=>a9 h λk ek h=>ny (G:=λws=>wpAny _ _ (call _ (_::ws)) _ _ _) i.uL ek λt J=>match q with|⟨n,hs,ho⟩=>Fn (v3 _ ho) hs rfl (h.nothing i.out (i4.toks i.out.rel))
theorem zk (tk:E5 T P) {l:Nat}:Z3 T P (.loc l) w aW "dict.update":=λ{W U s c7 d7 s' A vs ws Q E} i hv h=>VR.A9 (G:=λw=>wpAny _ _ (call _ (w::ws)) _ _ _) hv λa ha=>tM (i:=i) ha h (λJ J h=>False.elim h)
 (λf q h=>a9 h λds ek h=>q8 h λg h=>a7 g λg1 g2=>a0 ek λv ev ek=>i.uL.one (G:=λws=>wpAny _ _ (call _ (_::ws)) _ _ _) ev λw hw=>by
  rw[mj ek]at hw
  have hz:solid (.uq ds)=true∧VS T d7 (k9 T W d7) s'.heap (.uq ds) w:=C2 rfl hw
  exact hz.2.U2 rfl λd qd nb=>qd.Bt λes hd2 hs2 qd=>match q with
   |⟨kws,hd,hs,r,u⟩=>call_meetsIn PySem.F.slot_dict_update hd.typeIs PySem.F.entry_dict_update (PySem.F.args_dict_update_2 _ _) (meets_dict_update _ a d (λk=>nb (k▸.inl (Q1 ha))) hs2) ⟨kws,es,hd,hd2,OV (Nat.add_le_add (OV (dW hd u) tk.small) (qd.len▸OO g1)) (OV (by decide:1000+1000≤2000) (by rw[sizeLine_eq];decide)),λh' hd' J hs'=>
    have ms:=Z6 (T:=T) (W:=W) ha hs'
    have z:=vq (qd.ms ms) (tk.fF▸g2) (λk=>(r k).ms ms) u
    h.nothing i.out (i4.Z7 (o':=.map (putAll f ds)) (t:=s'.toks) i.out.rel ha hs' ⟨_,hd',hs,z.1,z.2⟩)⟩) λJ h=>False.elim h
inductive FI (T:i7) (W:r9) (U:List Addr) (h:Heap) (as:List Addr) (v:V):Value->Prop
 |mk (a:Addr) (m:a∈as) (o:a∈W.own) (q:M0 T W U h a v):FI T W U h as v (.ref a)
theorem J4.at {as:List Addr} (x:J4 T W U h vs ws as):∀{i:Nat} {v:V} {w:Value},vs[i]? =some v->ws[i]? =some w->made v=true->FI T W U h as v w:=by
 induction x with
 |nil=>exact λe=>nomatch e
 |plain v w vs ws as hm _ _ ih=>
  intro i v w e1 e2 hm'
  induction i with
  |zero=>cases e1;exact Bool.noConfusion (hm.symm.trans hm')
  |succ i=>exact ih e1 e2 hm'
 |own v a vs ws as ha q _ ih=>
  intro i v w e1 e2 hm'
  induction i with
  |zero=>cases e1;cases e2;exact⟨a,.head _,ha,q⟩
  |succ i=>exact match ih e1 e2 hm' with|⟨a,m,o,q⟩=>⟨a,.tail _ m,o,q⟩
theorem DL {kvs:List (Txt×V)} {ov:V} {G:V->Prop} (e:ents ov=some kvs) (k1:G (.uq kvs)) (k2:G (.E2 kvs)) (k3:G (.Z9 kvs)):G ov:=by
 cases ov with
 |uq=>cases e;exact k1
 |E2=>cases e;exact k2
 |Z9=>cases e;exact k3
 |_=>exact ns e
theorem DM {xs:List V} {ov:V} {G:V->Prop} (e:E3 ov=some xs) (k1:G (.lst xs)) (k2:G (.g6 xs)) (k3:G (.snap xs)):G ov:=by
 cases ov with
 |lst=>cases e;exact k1
 |g6=>cases e;exact k2
 |snap=>cases e;exact k3
 |_=>exact ns e
theorem GX {kvs:List (Txt×V)} {ov:V} (ek:ents ov=some kvs):Z3 T P ov w fS "dict.get":=λ{W U s c7 d7 s' A vs ws Q E} i hv h=>by
 have h:(b8 40 (JT kvs vs) c7).c4 (KV T W U s Q) (XV T W U s E):=DL (G:=λov=>(ou P.univ ov fS vs c7).c4 (KV T W U s Q) (XV T W U s E)->_) ek id id id h
 refine VR.U2 (G:=λw=>wpAny _ _ (call _ (w::ws)) _ _ _) hv ek λa d=>d.Bt λkws hd hs q=>w0 h λr er hq=>i0 er (λer=>a0 er λu eu er=>d8 er λk ek er=>i.uL.one (G:=λws=>wpAny _ _ (call _ (_::ws)) _ _ _) eu λwu hu=>n8 hu ek λt J=>
  HU hd hs (Jz (bad:=k9 T W d7) i.out.rel (q.look D2 k) (KV.step i.out (er▸hq)))) λer=>a0 er λu eu er=>d8 er λk ek2 erk=>?_
 have hx:=i.Cv
 refine i.uL.two (G:=λws=>ie T W U s c7 d7 s' vs ws->wpAny _ _ (call _ (_::ws)) _ _ _) eu (λwk wd hk hw=>n8 hk ek2 λt J hx=>KO hd hs ?_) hx
 have l:=q.look D2 k
 cases e:R9 r5 kvs k with
 |some v=>rw[e]at l;exact B1.W4 l λw ew g a=>ew▸KV.vs i.out.rel a g (KV.step i.out ((erk.symm.trans (OY (λo=>Option.getD o u.2) e):r=v)▸hq))
 |none=>
  rw[e]at l
  rw[l.aS]
  exact((erk.symm.trans (OY (λo=>Option.getD o u.2) e):r=u.2)▸hq) wd _ _ (i.out.trans (i4.toks i.out.rel)) hw λhm=>match hx with
   |⟨W',as,g,hr,z,nd,nw⟩=>match wd,z.at (i:=1) (v:=u.2) (by rw[two1_eq eu];rfl) rfl hm with|_,⟨b,m,o,qb⟩=>⟨b,W',nw b m,g,o,hr,qb⟩
end
theorem oD {sep:Txt} {ts:List Txt}:Str.join (i3 sep) (ts.map i3)=i3 (gk sep ts):=by
 induction ts with
 |nil=>rfl
 |cons s r ih=>induction r with
  |nil=>rfl
  |cons t r=>exact(OY (i3 s++i3 sep++ ·) ih).trans (by rw[Z5,Z5];rfl)
theorem oE {sep:Txt} (hs:t6 sep=true) {ts:List Txt}:ts.all t6=true->t6 (gk sep ts)=true:=by
 induction ts with
 |nil=>exact λJ=>rfl
 |cons s r ih=>
  refine λh=>a7 h λh1 h2=>?_
  induction r with
  |nil=>exact h1
  |cons t r=>exact R2 (R2 h1 hs) (ih h2)
variable {bad:Addr->Prop}
section
inductive Np (ws:List Value) (ts:List Txt):Prop
 |mk (l:List (Str×Tok)) (e:ws=strValues l) (e2:l.map (·.1)=ts.map i3) (a:ts.all t6=true)
theorem xZ {xs:List V} {ws:List Value} (q:z1 T U bad h xs ws):∀ts,qD xs=some ts->Np ws ts:=
 q.aO (λb e=>ON e▸⟨[],rfl,rfl,rfl⟩) λv w vs ws g a q ih b e=>a0 e λx ex e=>d8 e λy ey e=>match ih y ey with
  |⟨l,e1,e2,al⟩=>n8 (.mk (f7:=bad) _ _ a) ex λt ha=>e▸⟨(i3 x,t)::l,OY (_:: ·) e1,OY (_:: ·) e2,Bool.and_eq_true_iff.mpr ⟨ha,al⟩⟩
theorem CT {s0:Txt}:Z3 T P (.str s0) w fR "str.join":=λ{W U s c7 d7 s' A vs ws Q E} i hv h=>w7 h False.elim λh=>w7 h (λh=>a9 h λsep es h=>q8 h λg h=>w0 h λr er h=>VR.n8 (G:=λw=>wpAny _ _ (call _ (w::ws)) _ _ _) hv λtk hs=>by
 obtain rfl:=ON es
 exact a0 er λv ev er=>a0 er λxs ex er=>a0 er λys ey er=>a0 er λts et er=>a0 er λJ gf er=>i9 er λgz er=>i9 gf λgf J=>i9 ey λJ ey=>i.uL.one (G:=λws=>wpAny _ _ (call _ (_::ws)) _ _ _) ev λw hw=>VR.z0 hw ex λa us lst J q=>by
  subst er;subst ey
  obtain⟨l,e1,e2,al⟩:=xZ q ts et
  have tl:Builtin.Str.tooLong ((l.map (·.1)).toArray.foldl (· + ·.length+(i3 s0).length) 0)=false:=by
   rw[List.foldl_toArray' _ _ _ rfl,e2,List.foldl_map]
   exact decide_eq_false (Nat.not_lt.mpr (u7 gf))
  refine call_meets PySem.F.slot_str_join (typeIs_str s' _ tk) PySem.F.entry_str_join (PySem.F.args_str_join_2 _ _) (meets_str_join_list (i3 s0) tk a l tl) ⟨e1▸lst.list,?_⟩
  have h:=h.step i.out
  have ha:=oE hs al
  have eg:Builtin.Str.glued (i3 s0) (l.map (·.1))=i3 (gk s0 ts):=by rw[StrLaws.glued_eq_join,e2,oD]
  have big:(Made.str (Builtin.Str.glued (i3 s0) (l.map (·.1)))).post (λv s'=>wants Q E (.ok (.ret v)) s') s':=by rw[eg];exact⟨u7 gz,KV.str i.out.rel ha h⟩
  induction l with
  |nil=>exact big
  |cons p l=>induction l with
   |cons=>exact big
   |nil=>
    have e:p.1=i3 (gk s0 ts):=oD (sep:=s0) (ts:=ts)▸e2▸rfl
    show Q (.str p.1 p.2) _
    rw[e]
    exact KV.str i.out.rel ha h) False.elim
theorem Dt {d:D} {ds:List D}:∀{j k:Nat},Du d j ds=some k->∃i,k=j+i∧(ds.map λy=>jN y d)[i]? =some true∧∀m,m < i->(ds.map λy=>jN y d)[m]? =some false:=by
 induction ds with
 |nil=>exact λe=>nomatch e
 |cons x r ih=>
  intro j k e
  have e:(bif jN x d then some j else Du d (j+1) r)=some k:=e
  induction hb:jN x d with
  |true=>rw[hb]at e;cases e;exact⟨0,rfl,OY some hb,λm h=>nomatch h⟩
  |false=>
   rw[hb]at e
   obtain⟨i,h1,h2,h3⟩:=ih e
   refine⟨i+1,by rw[h1,Nat.add_assoc,Nat.add_comm 1],h2,λm hm=>?_⟩
   induction m with
   |zero=>exact OY some hb
   |succ m=>exact h3 m (Nat.lt_of_succ_lt_succ hm)
structure Nv (e:Value->Bool) (ws:List Value) (k:Nat):Prop where
 lt:k < ws.toArray.size
 hit:e ws.toArray[k]=true
 no:∀m (hm:m < ws.toArray.size),m < k->e ws.toArray[m]=false
theorem zi {e:Value->Bool} {ws:List Value} {m:Nat} {b:Bool} (q:(ws.map e)[m]? =some b) (hm:m < ws.toArray.size):e ws.toArray[m]=b:=by
 rw[Po,Pb (show m < ws.length from hm)]at q
 exact ON q
theorem zT {xs:List V} {us:List Value} {wv:Value} {k:Nat} (q:z1 T U bad s.heap xs us) (hv:VR T U bad (qg T W U) s.heap v wv) (e:EW v xs=some k) (hu:A.units+30 < cLine):∃f,Nv f us k∧∀y,y∈us.toArray->SeqAt.EqAt A.in1 s y wv (f y):=
 a0 e λd ed e=>a0 e λds es e=>match Dt e with
  |⟨i,h1,h2,h3⟩=>by
   obtain rfl:k=i:=h1.trans (Nat.zero_add i)
   have z:=mA (A:=A.in1) es ed q hv (Pf (Pa (by decide:21≤30) A.units) hu)
   rw[←z.1]at h2 h3
   have lt:k < us.length:=by have:=(List.getElem?_eq_some_iff.mp h2).1;rwa [OZ]at this
   exact⟨_,⟨lt,zi h2 lt,λm hm hk=>zi (h3 m hk) hm⟩,λy hy=>z.2 y (List.mem_toArray.mp hy)⟩
theorem zm {xs:List V} {ov:V} (ek:E3 ov=some xs):Z3 T P ov w N4 "list.index":=λ{W U s c7 d7 s' A vs ws Q E} i hv h=>by
 have h:(cY (bif Nat.beq N4 N4&&Nat.ble xs.length 1000 then b8 37 (rB xs vs) c7 else .no 39) (.no 42:R V)).c4 (KV T W U s Q) (XV T W U s E):=DM (G:=λov=>(ou P.univ ov N4 vs c7).c4 (KV T W U s Q) (XV T W U s E)->_) ek id id id h
 have h:=w7 h id False.elim
 exact VR.z0 (G:=λw=>wpAny _ _ (call _ (w::ws)) _ _ _) hv ek λa us l J q=>q8 h λg h=>w0 h λr er h=>a0 er λv ev er=>d8 er λk ek er=>i.uL.one (G:=λws=>wpAny _ _ (call _ (_::ws)) _ _ _) ev λwv hw=>match zT q hw ek i.hu with
  |⟨f,z,y⟩=>l.elim λj ho=>call_meets PySem.F.slot_list_index l.list.typeIs PySem.F.entry_list_index (PySem.F.args_list_index_2 _ _) (SeqAt.list_indexAt a us.toArray j none #[] wv f k z.lt (Int.ofNat_lt.mpr (Nat.lt_of_lt_of_le z.lt (OV (Nat.le_of_eq q.length) (OV (OO g) (by decide)))):(k:Int) < 2 ^ 63 - 1) z.hit z.no) ⟨ho,y,KV.int i.out.rel (h.step i.out |> λh=>er▸h)⟩
end
theorem dz:typeOf (.builtin "bytes.join")=pure (.type "method_descriptor"):=by show builtinType _=_;rw[builtinType_eq_fast];rfl'
theorem R7:Slot "bytes" "join" "bytes.join":=
 .of (owner:="bytes") (n:="join") (by rw[typeLookup_type,builtinLookup_eq_fast];rfl') (by decide+kernel) (by decide+kernel) (by decide+kernel)
  (by first|exact .inl (by decide+kernel)|exact .inr (by decide+kernel)) (by rw[isSubtype_type];rfl')
theorem cC:entryFor table "bytes.join"=some Builtin.«bytes.join»:=entryFor_of_tree (by rfl')
theorem dF (a b:Value):argsOk "bytes.join" ⟨[a,b],[]⟩:=by unfold argsOk;rfl'
open Builtin in
theorem BU {b:Array UInt8} {t:Tok} {id:String}:Bytes.takeBuffer? id (.bytes b t) 0=pure (some (b,none)):=by
 unfold Bytes.takeBuffer?
 rw[KBy.special_eq KBy.look_buffer,KBy.own_buffer]
 simp only[pure_bind]
 have e:((0:Int)== Bytes.fullReadOnly)=false:=by decide
 rw[e,KBy.buffer_eq]
 rfl
open Builtin in
theorem yc {b:Array UInt8} {t:Tok} {id:String}:Bytes.takeBufferQuiet? id (.bytes b t) 0=pure (some (b,none)):=by
 unfold Bytes.takeBufferQuiet?
 rw[BU]
 rfl
section
inductive A0:List Value->List (Array UInt8)->Prop
 |nil:A0 [] []
 |cons (b:Array UInt8) (t:Tok) (vs:List Value) (bs:List (Array UInt8)):A0 vs bs->A0 (.bytes b t::vs) (b::bs)
theorem A0.len {vs:List Value} {bs:List (Array UInt8)} (x:A0 vs bs):vs.length=bs.length:=by
 induction x with
 |nil=>rfl
 |cons _ _ _ _ _ ih=>rw[List.length_cons,List.length_cons,ih]
theorem A0.at {vs:List Value} {bs:List (Array UInt8)} (x:A0 vs bs):∀{i:Nat},i < vs.length->∃b t,vs[i]? =some (.bytes b t)∧bs[i]? =some b:=by
 induction x with
 |nil=>intro i h;cases h
 |cons b t _ _ _ ih=>
  intro i h
  induction i with
  |zero=>exact⟨b,t,rfl,rfl⟩
  |succ i=>exact ih (Nat.lt_of_succ_lt_succ h)
theorem A0.not {vs:List Value} {bs:List (Array UInt8)} (x:A0 vs bs):∀v,v∈vs->v.onHeap=false:=by
 induction x with
 |nil=>intro v h;cases h
 |cons b t _ _ _ ih=>
  intro v h
  rcases OW h with rfl|h
  ·rfl
  ·exact ih v h
theorem yg {n i:Nat} (h:i < n):n - i=(n - (i+1))+1:=(Nat.sub_add_cancel (Nat.sub_pos_of_lt h)).symm
theorem fD {n i x:Nat} {rest:List Nat} (h:i < n) (hr:x::rest=List.range' i (n - i)):x=i∧rest=List.range' (i+1) (n - (i+1)):=by
 rw[yg h,List.range'_succ]at hr
 exact List.cons.inj hr
theorem jf {n i:Nat} (h:i < n) (hr:([]:List Nat)=List.range' i (n - i)):False:=by
 rw[yg h,List.range'_succ]at hr
 exact nomatch hr
theorem yF {n i x:Nat} {rest:List Nat} (hr:x::rest=List.range' i (n - i)):i < n:=by
 rcases Nat.lt_or_ge i n with h|h
 ·exact h
 ·rw[Nat.sub_eq_zero_of_le h]at hr;exact nomatch hr
theorem jq {M:Model} {Q:Unit->Shared->Prop}:∀(l:List (Value×Option Value)) {keep:List Value} {s:Shared},(∀p,p∈l->p.2=none)->Q () s->wpAny M A (Builtin.Bytes.joinLetGo l keep) Q E s
 | [],keep,s,_,h=>OM h
 |(x,w)::rest,keep,s,hn,h=>by
  have:w=none:=hn (x,w) (.head _)
  subst this
  unfold Builtin.Bytes.joinLetGo
  dsimp only
  exact OL (wpAny_letGo (jq rest (λp hp=>hn p (.tail _ hp)) h))
inductive Ln (ws:List Value) (n:Nat) (ts:List (List Nat)):Prop
 |mk (bs:List (Array UInt8)) (h:A0 ws bs) (e:bs.map (λb=>b.toList.map UInt8.toNat)=ts)
theorem CF {xs:List V} {ws:List Value} (q:z1 T U bad h xs ws):∀ts,lS xs=some ts->Ln ws xs.length ts:=
 q.aO (λb e=>ON e▸⟨[],.nil,rfl⟩) λv w vs ws g a q ih b e=>a0 e λx ex e=>d8 e λy ey e=>match ih y ey with
  |⟨bs,h1,h2⟩=>F6 (.mk (f7:=bad) _ _ a) ex λar t ha=>e▸⟨ar::bs,.cons ar t _ _ h1,(congr (OY List.cons ha) h2:_=_)⟩
theorem rE {bs:List (Array UInt8)}:∀{k:Nat} {acc:Array UInt8},((bs.zipIdx k).foldl (λout (p,i)=>(if i > 0 then out++(#[]:Array UInt8)else out)++p) acc).toList=acc.toList++(bs.map Array.toList).flatten:=by
 induction bs with
 |nil=>exact(Pl _).symm
 |cons b bs ih=>
  intro k acc
  rw[List.zipIdx_cons,List.foldl_cons,ih,Array.toList_append,show(if k > 0 then acc++(#[]:Array UInt8)else acc)=acc by rw[Array.append_empty];exact ite_self _,List.append_assoc];rfl
theorem qI {bs:List (Array UInt8)}:∀{k:Nat},bs.foldl (λx b=>x+b.size) k=k+(bs.map Array.toList).flatten.length:=by
 induction bs with
 |nil=>exact rfl
 |cons b bs ih=>intro k;rw[List.foldl_cons,ih,List.map_cons,List.flatten_cons,List.length_append,Nat.add_assoc];rfl
theorem oR (bs:List (Array UInt8)):(bs.map λb=>b.toList.map UInt8.toNat).flatten=((bs.map Array.toList).flatten).map UInt8.toNat:=by
 rw[List.map_flatten,List.map_map];rfl
theorem DA {bs:List (Array UInt8)} {ts:List (List Nat)} (e:bs.map (λb=>b.toList.map UInt8.toNat)=ts) {c:Array UInt8} (k:c.toList=(bs.map Array.toList).flatten):c.toList.map UInt8.toNat=ts.flatten:=by rw[k,←e,oR]
theorem GG {α:Type} {M:Model} {arr:Array Value} {f:Value->Sem α} {g:Sem α} {Q:α->Shared->Prop} (h:∀x,arr= #[x]->wpAny M A (f x) Q E s) (k:wpAny M A g Q E s):wpAny M A (match arr with| #[x]=>f x|_=>g) Q E s:=by
 obtain⟨l⟩:=arr
 match l,h with
 | [],_=>exact k
 | [_],h=>exact h _ rfl
 |_::_::_,_=>exact k
theorem gm {M:Model} {Q:Option (Array Value)->Shared->Prop} {E:Value->Shared->Prop} {k:Nat} {arr:Array Value} (ho:s.heap.get? a=some {cls:=.type "list",data:=.seq arr k}) (q:s'=s) (h:Q (some arr) s'):wpAny M A (seqItems? (.ref a)) Q E s':=
 OL (wpAny_load (q▸ho) (OM h))
theorem yE {α:Type} {M:Model} {n:Nat} {i:α} {f:Nat->α->Sem (ForInStep α)} {Q:α->Shared->Prop} (h:wpAny M A (forIn (List.range' 0 n) i f) Q E s):wpAny M A (forIn [0:n] i f) Q E s:=by
 rw[Std.Legacy.Range.forIn_eq_forIn_range']
 exact(show List.range' 0 ((n - 0+1 - 1) / 1)=List.range' 0 n by rw[Nat.div_one];rfl)▸h
theorem yb {b:Array UInt8} {t:Tok} {v:Value} {id:String} (e:v=.bytes b t):Builtin.Bytes.takeBufferQuiet? id v 0=pure (some (b,none)):=e▸yc
structure JI (ws:List Value) (bs:List (Array UInt8)) (s:Shared) (rest:List Nat) (b:Array (Array UInt8)×List (Value×Option Value)) (s':Shared):Prop where
 r:rest=List.range' b.1.size (ws.length - b.1.size)
 a:b.1.toList=bs.take b.1.size
 c:b.2=(ws.take b.1.size).map λv=>(v,none)
 t:s'=s
theorem JI.none {ws:List Value} {bs:List (Array UInt8)} {s s':Shared} {rest:List Nat} {b:Array (Array UInt8)×List (Value×Option Value)} (h:JI ws bs s rest b s') {p:Value×Option Value} (q:p∈b.2):p.2=.none:=by
 rw[h.c]at q;exact(List.mem_map.mp q).elim λJ e=>e.2▸rfl
theorem JI.any {ws:List Value} {bs:List (Array UInt8)} {s s':Shared} {rest:List Nat} {b:Array (Array UInt8)×List (Value×Option Value)} (hb:A0 ws bs) (h:JI ws bs s rest b s'):b.2.any (λx=>x.fst.onHeap)=false:=by
 rw[h.c];exact List.any_eq_false.mpr λJ q=>(List.mem_map.mp q).elim λv e=>e.2▸λz=>Bool.noConfusion ((hb.not v (List.mem_of_mem_take e.1)).symm.trans z)
theorem JI.item {ws:List Value} {bs:List (Array UInt8)} {s s':Shared} {x:Nat} {rest:List Nat} {b:Array (Array UInt8)×List (Value×Option Value)} (hb:A0 ws bs) (h:JI ws bs s (x::rest) b s'):∃c t,ws.toArray.getD x .none=.bytes c t∧JI ws bs s rest (b.1.push c,b.2++[(ws.toArray.getD x .none,.none)]) s':=
 have lt:=yF h.r
 have e:=fD lt h.r
 match hb.at lt with
 |⟨c,t,e1,e2⟩=>have ex:ws.toArray.getD x .none=.bytes c t:=by rw[e.1,Array.getD_eq_getD_getElem?,List.getElem?_toArray,e1];rfl
  ⟨c,t,ex,⟨by rw[Array.size_push];exact e.2,by rw[Array.size_push,Array.toList_push,List.take_add_one,e2,h.a];rfl,by rw[Array.size_push,List.take_add_one,List.map_append,e1,ex,h.c];rfl,h.t⟩⟩
theorem JI.all {ws:List Value} {bs:List (Array UInt8)} {s s':Shared} {b:Array (Array UInt8)×List (Value×Option Value)} (hb:A0 ws bs) (h:JI ws bs s [] b s'):b.1.toList=bs:=
 h.a.trans (List.take_of_length_le (hb.len▸(Nat.lt_or_ge b.1.size ws.length).elim (λq=>(jf q h.r).elim) id))
theorem yV {x:Value} {bs:List (Array UInt8)} (h:A0 [x] bs):∃b t,x=.bytes b t∧bs=[b]:=by
 cases h with
 |cons b t _ bs h=>cases h;exact⟨b,t,rfl,rfl⟩
theorem Dd {bs:List (Array UInt8)} {p:Array (Array UInt8)} {k:Nat} (e:p.toList=bs) (h:(bs.map Array.toList).flatten.length≤1000):Builtin.Bytes.tooLong (p.foldl (λx b=>x+b.size) ((#[]:Array UInt8).size * k))=false:=
 decide_eq_false (Nat.not_lt.mpr (by rw[←Array.foldl_toList,e,qI,show(#[]:Array UInt8).size * k=0 from Nat.zero_mul k,Nat.zero_add];exact bp h))
theorem vP {prog:Program} {w:World} {a:Addr} {ws:List Value} {bs:List (Array UInt8)} {t:Tok} {k:Nat} (ho:s.heap.get? a=some {cls:=.type "list",data:=.seq ws.toArray k}) (hb:A0 ws bs) (hl:(bs.map Array.toList).flatten.length≤1000) (h:∀c t u,c.toList=(bs.map Array.toList).flatten->Q (.bytes c t) {s with toks:=u}):
 wpAny (model prog w) A (Builtin.«bytes.join» ⟨[.bytes #[] t,.ref a],[]⟩) (λY1 s'=>∃r,Y1=.done (.ret r)∧Q r s') E s:=by
 refine(OL (OM ?_):wpAny _ _ (Builtin.Bytes.joinM .bytes ⟨[.bytes #[] t,.ref a],[]⟩) _ _ _)
 refine bm_if_true rfl (OL ?_)
 have hT:s.TypeIs (.ref a) "list":=⟨_,ho,rfl⟩
 refine(OL (wpAny_typeOf hT (bm_if_true (by decide) (OM ?_))):wpAny _ _ (Builtin.Bytes.joinItems _) _ _ _)
 refine OL (gm ho rfl ?_)
 refine bm_if_true rfl ?_
 refine GG (λx ex=>?_) ?_
 ·have e1:=yV ((show ws=[x]from OY Array.toList ex)▸hb)
  refine OL (wpAny_typeOf (e1.choose_spec.choose_spec.1▸PySem.W.typeIs_bytes _ _ _) ?_)
  exact bm_if_true (by decide) (OL (wpAny_rule (OM ⟨_,rfl,e1.elim λb e=>e.elim λt e=>e.1▸h b t s.toks (e.2▸(Pl _).symm)⟩)))
 ·refine OL (yE (wpAny_forIn_list _ (JI ws bs s) _ (λx rest b s' hI=>?_) (λb s' hI=>?_) _ _ ⟨rfl,rfl,rfl,rfl⟩))
  ·refine OL (gm ho hI.t ?_)
   have j:=hI.item hb
   refine bm_if_false (by rw[hI.any hb];rfl) (OL (Pd (wpAny_of_eq (yb j.choose_spec.choose_spec.1) ?_)))
   refine OL (gm ho hI.t ?_)
   exact bm_if_false (bne_self_eq_false _) (OM j.choose_spec.choose_spec.2)
  ·refine OL (OL (OM (OM ?_)))
   have e:=hI.all hb
   have ej:=(rE (k:=0) (acc:=#[]) (bs:=b.1.toList)).trans ((List.nil_append _).trans (OY (λbs=>(List.map Array.toList bs).flatten) e))
   refine bm_if_false (Dd e hl) (OL (wpAny_mkBytes (OL (Pd (wpAny_point (OL (jq _ (λp hp=>hI.none hp) (OM ⟨_,rfl,?_⟩)))))) (bp (by rw[←Array.length_toList];exact ej▸hl))))
   exact hI.t▸h _ _ _ ej
theorem CU {b0:List Nat}:Z3 T P (.bytes b0) w fR "bytes.join":=λ{W U s c7 d7 s' A vs ws Q E} i hv h=>w7 h False.elim λh=>w7 h False.elim λh=>w7 h (λh=>a9 h λsp es h=>q8 h λg h=>a7 g λJ g=>w0 h λr er h=>VR.F6 (G:=λw=>wpAny _ _ (call _ (w::ws)) _ _ _) hv λb tk hb=>by
 obtain rfl:b= #[]:=Array.toList_inj.mp (List.map_eq_nil_iff.mp (hb.trans ((ON es:b0=sp).trans (List.isEmpty_iff.mp g))))
 exact a0 er λv ev er=>a0 er λxs ex er=>a0 er λys ey er=>a0 er λts et er=>i9 er λgz er=>i9 ey λJ ey=>i.uL.one (G:=λws=>wpAny _ _ (call _ (_::ws)) _ _ _) ev λw hw=>VR.z0 hw ex λa us ⟨j,ho⟩ J q=>by
  subst er;subst ey
  obtain⟨bs,h1,h2⟩:=CF q ts et
  have h:=h.step i.out
  have hlen:(bs.map Array.toList).flatten.length≤1000:=by rw[←OZ (f:=UInt8.toNat),←oR,h2];exact OO gz
  exact call_meetsIn R7 (PySem.W.typeIs_bytes s' #[] tk) cC (dF _ _) (S:=λJ R s=>s.heap.get? a=some {cls:=.type "list",data:=.seq us.toArray j}∧∀c t u,c.toList=(bs.map Array.toList).flatten->R (.ok (.ret (.bytes c t))) {s with toks:=u})
   (.of_wp λA R s h=>vP (Q:=λv s'=>R (.ok (.ret v)) s') h.1 h1 hlen h.2) ⟨ho,λc t' u e=>KV.G4 i.out.rel (.bytes _ _ t' (DA h2 e)) rfl h⟩) False.elim
theorem nu {prog:Program} {w:World} {a:Addr} {arr:Array Value} {x:Value} {e:Value->Bool} {j k:Nat} (ho:s.heap.get? a=some {cls:=.type "tuple",data:=.seq arr k}) (he:∀y,y∈arr->SeqAt.EqAt A s y x (e y)) (hj:j < arr.size) (hit:e arr[j]=true) (hno:∀m (hm:m < arr.size),m < j->e arr[m]=false) (h:Q (.int (j:Int) s.toks) {s with toks:=s.toks+1}):
 wpAny (model prog w) A (Builtin.«tuple.index» ⟨[.ref a,x],[]⟩) (λY1 s'=>∃r,Y1=.done (.ret r)∧Q r s') E s:=by
 unfold Builtin.«tuple.index»
 refine OL (OM ?_)
 dsimp only
 refine OL ?_
 unfold Builtin.Tuple.tupleItemsOf seqItems?
 refine OL (OL (wpAny_load ho ?_))
 refine OM (OM ?_)
 refine OL (OM (OL (OM ?_)))
 rw[Std.Legacy.Range.forIn_eq_forIn_range']
 simp only[Std.Legacy.Range.size,Nat.sub_zero,Nat.add_sub_cancel,Nat.div_one,Nat.min_self]
 refine OL (wpAny_forIn_list _ (λrest b s'=>∃i,rest=List.range' i (arr.size - i)∧i≤j∧b=((none:Option Fin),())∧s'=s) _ ?_ ?_ _ _ ⟨0,by simp,Nat.zero_le _,rfl,rfl⟩)
 ·rintro y rest b s' ⟨i,hr,hi,rfl,rfl⟩
  have hlt:i < arr.size:=Pf hi hj
  obtain⟨rfl,hrest⟩:=fD hlt hr
  rw[Array.getElem?_eq_getElem hlt]
  dsimp only
  refine OL (he _ (Array.getElem_mem hlt) prog w _ _ ?_)
  by_cases e1:y=j
  ·subst e1
   rw[hit]
   refine bm_if_true rfl (OL (OL (wpAny_mkInt (OM (OM ?_)))))
   exact OM ⟨_,rfl,h⟩
  ·rw[hno y hlt (Nat.lt_of_le_of_ne hi e1)]
   exact bm_if_false rfl (OM ⟨y+1,hrest,Nat.lt_of_le_of_ne hi e1,rfl,rfl⟩)
 ·rintro b s' ⟨i,hr,hi,rfl,rfl⟩
  exact(jf (Pf hi hj) hr).elim
theorem zl {xs:List V}:Z3 T P (.tup xs) w N4 "tuple.index":=λ{W U s c7 d7 s' A vs ws Q E} i hv h=>w7 h False.elim λh=>w7 h False.elim λh=>w7 h False.elim λh=>w7 h (λh=>VR.E7 (G:=λw=>wpAny _ _ (call _ (w::ws)) _ _ _) hv λa us l J q=>q8 h λg h=>w0 h λr er h=>a0 er λv ev er=>d8 er λk ek er=>i.uL.one (G:=λws=>wpAny _ _ (call _ (_::ws)) _ _ _) ev λwv hw=>match zT q hw ek i.hu with
 |⟨f,z,y⟩=>l.elim λj ho=>call_meetsIn PySem.F.slot_tuple_index l.tup.typeIs PySem.F.entry_tuple_index (PySem.F.args_tuple_index_2 _ _) (S:=λB R t=>t=s'∧B=A∧R (.ok (.ret (.int (k:Int) t.toks))) {t with toks:=t.toks+1})
  (.of_wp λB R t h=>by
   obtain⟨rfl,rfl,hr⟩:=h
   exact nu (Q:=λv s'=>R (.ok (.ret v)) s') (e:=f) (j:=k) ho y z.lt z.hit z.no hr) ⟨rfl,rfl,KV.int i.out.rel (h.step i.out |> λh=>er▸h)⟩) False.elim
end
def SRun (T:i7) (n:Nat) (run:Nat->List V->Hp->R V):Prop:=
 ∀{W:r9} {A:Around} {U:List Addr} {Y:Hp} {s:Shared} {k:Nat} {a:Addr} {vs:List V} {ws:List Value} {Rz:Result->Shared->Prop},
  d9 T W U Y s.heap->Ar T W A n s.heap->T.fn k=some a->E4 T W U s.heap vs ws->(run k vs Y).c4 (KV T W U s λv=>Rz (.ok (.ret v))) (XV T W U s λe=>Rz (.error e))->codeAny (model T.prog T.w) A (.call (.ref a) ⟨ws,[]⟩) Rz s
def rz (Q E:Value->Shared->Prop) (r:Result) (s:Shared):Prop:=match r with|.ok (.ret v)=>Q v s|.ok _=>False|.error e=>E e s
theorem Ar.le {T:i7} {W:r9} {A:Around} {n k:Nat} {h:Heap} (a:Ar T W A n h) (l:k≤n):Ar T W A k h:=⟨a.handled,OV (Pa (Nat.mul_le_mul_left 2 l) _) a.depth,OV (Pa (Nat.mul_le_mul_left 20 l) _) a.units,a.frames⟩
theorem Ar.room {T:i7} {W:r9} {A:Around} {n:Nat} {h:Heap} (a:Ar T W A n h):N7 A n:=⟨a.depth,a.units⟩
theorem Ar.ext {T:i7} {W:r9} {U d7:List Addr} {s s':Shared} {A:Around} {n:Nat} (x:V2 T W U d7 s s') (a:Ar T W A n s.heap):Ar T W A n s'.heap:=a.mv (λJ q=>q) x.off λb hb J o e d=>(x.slots b hb o e).elim λsl e'=>⟨_,e',d⟩
variable {n:Nat} {r:Ev} {env:Env} {own:List (Nat×Addr)} {m:Fr}
section
variable {k:Nat}
theorem SRun.call {run:Nat->List V->Hp->R V} (h:SRun T n run) (c:d9 T W U Y s.heap) (ar:Ar T W A n s.heap) (ha:T.fn k=some a) (q:E4 T W U s.heap vs ws) (k:(run k vs Y).c4 (KV T W U s Q) (XV T W U s E)):wpAny (model T.prog T.w) A (PySem.call (.ref a) ws) Q E s:=
 wpAny_call (h (Rz:=rz Q E) c ar ha q k)
theorem iS {xs:List Nat}:∀{vs:List V} {x:Nat} {v:V},d6 (BE xs vs) x=some v->∃i:Nat,xs[i]? =some x∧vs[i]? =some v:=by
 induction xs with
 |nil=>exact λe=>nomatch e
 |cons y ys ih=>
  intro vs x v e
  induction vs with
  |nil=>exact nomatch e
  |cons u us=>
   have e:(bif Nat.beq y x then some u else d6 (BE ys us) x)=some v:=e
   induction h:Nat.beq y x with
   |true=>rw[h]at e;exact⟨0,OY some (Pc h),e⟩
   |false=>rw[h]at e;exact(ih e).elim λi z=>⟨i+1,z.1,z.2⟩
theorem yA (tm:TM T P) (he:V0 T n r.Y9):SRun T (n+1) (Fv P r):=by
 intro W A U Y s k a vs ws Rz c ar hk hv h
 refine a9 h λfd ef h=>a9 h λm em h=>i9 em λg em=>a7 g λg1 g2=>Q6 tm.toE5 (tm.fns k a fd hk ef) (own:=[]) (m:=m) c (ar.le (Nat.zero_le _)) (OV (Pa (Nat.le_add_left 1 (2 * n+1)) A.depth) ar.depth) (OV (Pa (OV (by decide:3≤20) (Nat.le_add_left 20 (20 * n))) A.units) ar.units) (i4.refl c) s8.refl.v5 (λa ha=>(c.o5.own a ha).ex) ar.frames (λJ J J q=>nomatch q) (λJ J q=>nomatch q)
  (hv.length▸OO g1) (hv.length▸OO g2) (λx v e=>?_) λenv W1 s' body E en htr=>he (F:=⟨A.deeper env,env,W,U,s,[],[]⟩) (z:=⟨W1,[],U,s'⟩) ⟨ar.room.deeper,en.cn⟩ en.fs htr (R.c4.mono (R.d5.mp h) (λp c7 k=>?_) en.exc)
 ·rw[←em,←hv.length]at e
  obtain⟨i,h1,h2⟩:=iS e
  by_cases hi:i < vs.length
  ·rw[Pn hi]at h2
   exact hv.at h2 λw hw g q=>.arg i w h1 hw (.pl v w g q)
  ·rw[List.getElem?_append_right (Pr hi),←hv.length]at h2
   exact .dD (i - ws.length) (by rw[Nat.add_sub_cancel' (hv.length▸Pr hi)];exact h1) h2
 ·obtain⟨fl,m'⟩:=p
  induction fl with
  |ret v=>exact k
  |next=>exact λz f=>(show KV T W U s (λv=>Rz (.ok (.ret v))) .none c7 from k) .none _ _ f.out (.mk _ _ (.G4 _ _ .none)) (G1.not rfl)
theorem uA (tm:TM T P) (hr:g7 T n r.ev) (hrun:SRun T n r.run) (c:Cx T W n A env own m U Y s) {es:List X} {es':List Ex} (t:Z2 T env.kindOf es es') {pos:Pos} (ha:T.fn k=some a) {first:List V} {fw:List Value} (hf:E4 T W U s.heap first fw)
 (h:((G7 r m es Y).bind λvs Y=>r.run k (first++vs) Y).c4 (KV T W U s Q) (XV T W U s E)):wpAny (model T.prog T.w) A (callWith pos (.ref a) fw (backTo pos (starEach es' env)) (backToKw pos (keywordEach [] env))) Q E s:=
 bD tm.toE5 hr c t (keeps_K (tm.keep k a ha)) h λvs c7 ws s' d7 o q h=>hrun.call o.rel (c.ar.ext o.ext) ha ((o.ext.IT hf).append q) (c4.step o h λJ J q=>q.step o)
theorem fW {α:Type} {o:Option α} {u:Unit} (h:kM o=some u):o=none:=by
 induction o with
 |none=>rfl
 |some=>exact ns h
theorem jk (tm:TM T P) (c:d9 T W U Y s.heap) {cc mm:Nat} {C x dx:Addr} {pl:Sem Bool} {kws:List (Str×Value)} {Q:Value×List Value->Shared->Prop} (hC:T.cls cc=some C) (hm:ag P cc mm=some k) (hx:s.heap.get? x=some ⟨.ref C,some dx,.plain,#[]⟩) (hd:s.heap.DictOf (strKind T.prog T.w) dx kws) (hn:valueAt kws (T.nm mm)=none)
 (h:∀a,T.fn k=some a->Q (.ref a,[.ref x]) s):wpAny (model T.prog T.w) A (getMethod (.ref x) (T.nm mm) pl) Q E s:=match tm.l5 cc C mm k hC hm with
 |⟨a,ha,hg,hf,ht⟩=>(cw hd (T.nm mm)).elim λod z=>method_fn (k7 tm.toE5 c) (C:=C) (ox:=⟨.ref C,some dx,.plain,#[]⟩) (od:=some od) ⟨hx,rfl,rfl,z.1⟩ (plainGet_of hg).1 (plainGet_of hg).2 hf (beq_iff_eq.mp ht) (show(lookIn (T.nm mm) od).map _=_ by rw[z.2,hn];rfl) (h a ha)
theorem vF (tm:TM T P) (c:d9 T W U Y s.heap) {o:V} {wo:Value} {cc mm:Nat} {pl:Sem Bool} {Q:Value×List Value->Shared->Prop} {u:Unit} (ho:C5 T W U s.heap o wo) (hc:gU o Y=some cc) (hm:ag P cc mm=some k) (hb:pO P o mm Y=some u) (h:∀a,T.fn k=some a->solid o=true->Q (.ref a,[wo]) s):wpAny (model T.prog T.w) A (getMethod wo (T.nm mm) pl) Q E s:=by
 revert h
 refine i0 hc (λhc=>d8 hc λq eq hc=>kB (G:=λwo=>(∀a,T.fn k=some a->solid o=true->Q (.ref a,[wo]) s)->wpAny (model T.prog T.w) A (getMethod wo (T.nm mm) pl) Q E s) ho eq λad i h=>match i with
  |⟨C,dx,kws,hC,ha,_,hd,_,e1,r⟩=>?_) λhc=>a0 hc λi ei hc=>a0 hc λob eo hc=>d8 hc λq eq hc=>i0 hb (λhb=>a0 hb λq eq J=>ns ((U8 ei▸eq:kb (.loc i)=some q))) λhb=>a0 hb λq' eq' hb=>a0 hb λnm en hb=>a0 eq' λi' ei' e=>a0 e λob' eo' e=>a0 e λq2 eq2 e=>a0 e λod ed e=>d8 e λf ef e=>
   A9 (G:=λwo=>(∀a,T.fn k=some a->solid o=true->Q (.ref a,[wo]) s)->wpAny (model T.prog T.w) A (getMethod wo (T.nm mm) pl) Q E s) ho ei λad ha h=>?_
 ·rw[pZ eq]at hb h
  have l:=J8.look (key:=T.nm) (eq:=Nat.beq) (X0 tm.toE5) ⟨e1,r⟩ mm
  have e2:d6 q.2 mm=none:=i0 hb fW λhb=>a0 hb λJ e J=>a0 e λJ e J=>ns e
  have l:B1 T U (k9 T W U) s.heap (d6 q.2 mm) _:=l
  rw[e2]at l
  exact jk tm c (hc▸hC) hm ha hd l.aS λa ha=>h a ha rfl
 ·obtain rfl:=ON (ei'.symm.trans ei)
  obtain rfl:=ON (eo'.symm.trans eo)
  obtain rfl:=ON (eq2.symm.trans eq)
  subst e;subst hc
  refine c.at eo λad' ha' z=>?_
  rw[oi eq,ON (ha'.symm.trans ha)]at z
  obtain⟨C,dx,hC,hdx,g⟩:=z
  refine c.at ed λdx' hd' z2=>?_
  rw[H5 ef,ON (hd'.symm.trans hdx)]at z2
  obtain⟨kws,d,_,r,_⟩:=z2
  have l:=r nm
  rw[show f nm=none from fW hb,←tm.LJ mm nm en]at l
  exact jk tm c hC hm g d l.aS λa ha=>h a ha (by rw[U8 ei];rfl)
theorem vH {α:Type} {K:α->Hp->Prop} (hr:g7 T n r.ev) (c:Cx T W n A env own m U Y s) {o:X} {mm:Nat} {es:List X} {o':Ex} {q p:Pos} {es':List Ex} {f:V->Hp->R α} (t:Tr T env.kindOf o o') (ts:Z2 T env.kindOf es es') (hs:I1 o'=true) (hq:(q.endLine == p.line)=true) (hl:es.length≤12) (h:((r.ev m o Y).bind f).c4 K (XV T W U s E))
 (k:∀ov c9 wo c5 c8 pl,i4 T W U s c9 c8 c5->C5 T W c8 c5.heap ov wo->(f ov c9).c4 K (XV T W U s E)->wpAny (model T.prog T.w) A (getMethod wo (T.nm mm) pl) (λf s'=>wpAny (model T.prog T.w) A (callWith p f.1 f.2 (backTo p (starEach es' env)) (backToKw p (keywordEach [] env))) Q E s') E c5):
 wpAny (model T.prog T.w) A (eval (.Call (.Attribute o' (T.nm mm) q) es' [] p) env) Q E s:=by
 rw[arm_eval_Call]
 exact OL (P1 hs (Bx hr c t h λov c9 wo c5 c8 w3 vo fo h=>OL (Pk (W8 (ug ts p env hl) hq λpl=>k ov c9 wo c5 c8 pl w3 vo h))))
inductive C8 (T:i7) (P:Pg) (ov:V) (mm:Nat) (s:Shared) (wo:Value):Prop
 |mk (bid:String) (g:∀{A:Around} {pl:Sem Bool} {Q:Value×List Value->Shared->Prop} {E:Value->Shared->Prop},Q (.builtin bid,[wo]) s->wpAny (model T.prog T.w) A (getMethod wo (T.nm mm) pl) Q E s) (c:Z3 T P ov wo mm bid)
structure TQ (T:i7) (P:Pg):Prop extends TN T P where
 n0:T.nm aY= "append"
 n1:T.nm fS= "get"
 n2:T.nm ro= "pop"
 n3:T.nm aW= "update"
 n4:T.nm N4= "index"
 n5:T.nm fR= "join"
theorem R0 {a b:Nat} {G:Nat->Prop} (h:Nat.beq a b=true) (k:G b):G a:=(Pc h).symm▸k
theorem or_bool {a b:Bool} {G:Prop} (h:(a || b)=true) (k1:a=true->G) (k2:b=true->G):G:=by
 induction a with
 |true=>exact k1 rfl
 |false=>exact k2 h
theorem gP (tq:TQ T P) {l:Nat} {a:Addr} {kws:List (Str×Value)} {mm:Nat} (hd:s.heap.DictOf (strKind T.prog T.w) a kws) (h:(Nat.beq mm fS || Nat.beq mm ro || Nat.beq mm aW)=true):C8 T P (.loc l) mm s (.ref a):=
 or_bool h (λh=>or_bool h (λh=>R0 (G:=λmm=>C8 T P (.loc l) mm s (.ref a)) h ⟨_,λq=>tq.n1▸getMethod_builtin hd.typeIs PySem.F.plainAttrs_dict PySem.F.slot_dict_get PySem.F.type_dict_get hd.mapOf.noDict q,JQ⟩)
  λh=>R0 (G:=λmm=>C8 T P (.loc l) mm s (.ref a)) h ⟨_,λq=>tq.n2▸getMethod_builtin hd.typeIs PySem.F.plainAttrs_dict PySem.F.slot_dict_pop PySem.F.type_dict_pop hd.mapOf.noDict q,JP tq.toE5⟩)
  λh=>R0 (G:=λmm=>C8 T P (.loc l) mm s (.ref a)) h ⟨_,λq=>tq.n3▸getMethod_builtin hd.typeIs PySem.F.plainAttrs_dict PySem.F.slot_dict_update PySem.F.type_dict_update hd.mapOf.noDict q,zk tq.toE5⟩
theorem Ks (tq:TQ T P) (c:d9 T W U Y s.heap) {ov:V} {wo:Value} {mm:Nat} {u:Unit} (hv:C5 T W U s.heap ov wo) (e:DY ov mm Y=some u):C8 T P ov mm s wo:=
 i0 e (λe=>a0 e λi ei e=>a0 e λo eo e=>A9 hv ei λa ha=>c.at eo λa' ha' q=>by
  rw[ON (ha'.symm.trans ha)]at q
  rw[U8 ei]
  exact i0 e (λe=>a0 e λxs ex e=>i9 e λg J=>by
   rw[O0 ex]at q
   exact match q with|⟨ws,l,_⟩=>R0 (G:=λmm=>C8 T P (.loc i) mm s (.ref a)) g ⟨_,λq=>tq.n0▸T5 l slot_list_append type_list_append q,zo⟩) λe=>i0 e (λe=>a0 e λf ef e=>i9 e λg J=>by
   rw[H5 ef]at q
   exact match q with|⟨kws,d,_,_,_⟩=>gP tq d g) λe=>a0 e λJ ef e=>i9 e λg J=>by
   rw[W7 ef]at q
   exact match q with|⟨n,_,ho⟩=>gP tq (v3 (strKind T.prog T.w) ho) (Bool.or_eq_true_iff.mpr (.inl g))) λe=>
 i0 e (λe=>a0 e λx ex e=>i9 e λg J=>by
  rw[U7 ex]at hv⊢
  exact VR.n8 (G:=λwo=>C8 T P (.str x) mm s wo) hv λt J=>R0 (G:=λmm=>C8 T P (.str x) mm s (.str (i3 x) t)) g ⟨_,λq=>tq.n5▸(by with_reducible exact GM.join q),CT⟩) λe=>
 i0 e (λe=>a0 e λx ex e=>i9 e λg J=>by
  rw[aA ex]at hv⊢
  exact VR.F6 (G:=λwo=>C8 T P (.bytes x) mm s wo) hv λa t J=>R0 (G:=λmm=>C8 T P (.bytes x) mm s (.bytes a t)) g ⟨_,λq=>tq.n5▸(by with_reducible exact KBd.method_of (.bytes a t) (PySem.W.typeIs_bytes _ _ _) R7 dz KBd.noRef q),CU⟩) λe=>
 i0 e (λe=>a0 e λx ex e=>i9 e λg J=>by
  rw[bF ex]at hv⊢
  exact VR.E7 (G:=λwo=>C8 T P (.tup x) mm s wo) hv λa ws l J J=>l.elim λk ho=>R0 (G:=λmm=>C8 T P (.tup x) mm s (.ref a)) g ⟨_,λq=>tq.n4▸getMethod_builtin l.tup.typeIs PySem.F.plainAttrs_tuple PySem.F.slot_tuple_index PySem.F.type_tuple_index (λb q=>⟨_,Value.ref.inj q▸ho,rfl⟩) q,zl⟩) λe=>
 i0 e (λe=>a0 e λx ex e=>i9 e λg J=>VR.z0 (G:=λwo=>C8 T P ov mm s wo) hv ex λa ws l J J=>R0 (G:=λmm=>C8 T P ov mm s (.ref a)) g ⟨_,λq=>tq.n4▸T5 l PySem.F.slot_list_index PySem.F.type_list_index q,zm ex⟩) λe=>
 a0 e λx ex e=>i9 e λg J=>VR.U2 (G:=λwo=>C8 T P ov mm s wo) hv ex λa d=>d.Bt λkws hd J J=>R0 (G:=λmm=>C8 T P ov mm s (.ref a)) g ⟨_,λq=>tq.n1▸getMethod_builtin hd.typeIs PySem.F.plainAttrs_dict PySem.F.slot_dict_get PySem.F.type_dict_get hd.mapOf.noDict q,GX ex⟩
theorem vG (tq:TQ T P) (hr:g7 T n r.ev) (hrun:SRun T n r.run) (c:Cx T W n A env own m U Y s) {o:X} {mm:Nat} {es:List X} {e':Ex} (t:Tr T env.kindOf (.l5 o mm es) e') (h:(s7 P r m (.l5 o mm es) Y).c4 (KV T W U s Q) (XV T W U s E)):wpAny (model T.prog T.w) A (eval e' env) Q E s:=
 t.kQ λo' q es' p t1 ts hs hq hl=>vH hr c t1 ts hs hq hl h λov c9 wo c5 c8 pl w3 vo h=>cg (K:=λz=>R.c4 z _ _) (c4.step w3 h λJ J z=>z.step w3) (λcc ec h=>a9 h λk ek h=>a9 h λJ eb h=>vF tq.toTM w3.rel vo ec ek eb λa ha g=>
  uA tq.toTM hr hrun (c.mv w3) ts ha (.cons _ _ _ _ g (vo.vs g) .nil) h) λJ h=>a9 h λJ e h=>match Ks tq w3.rel vo e with
  |⟨bid,g,mc⟩=>g (J3 tq.toE5 hr (c.mv w3) ts (M5 rfl) (R.c4.mono (R.d5.mp h) (λvs n9 h ws l3 o7 i8 x=>mc ⟨i8,x,w3.rel.o5,c.ar.handled,pk c⟩ (i8.ext.vr vo) h) λJ J x=>x))
theorem Ea (tn:TN T P) (hr:g7 T n r.ev) (c:Cx T W n A env own m U Y s) {es:List X} {es':List Ex} {b:Bi} {pos:Pos} (ts:Z2 T env.kindOf es es') (h:((m7 r m es Y).bind λvs Y=>b8 88 (I5 P b vs Y) Y).c4 (KV T W U s Q) (XV T W U s E)):
 wpAny (model T.prog T.w) A (callWith pos (T.bi b) [] (backTo pos (starEach es' env)) (backToKw pos (keywordEach [] env))) Q E s:=
 J3 tn.toE5 hr c ts (M5 (by rw[tn.LV];induction b<;>rfl)) (R.c4.mono (R.d5.mp h) (λvs c9 h ws l3 o7 i8 x=>w0 h λv e h=>Le tn i8.rel c.ar.handled (x.vr c.rel.o5) e (h.step i8)) λJ J x=>x)
end
structure NA (T:i7) (C fI:Addr):Prop where
 m:makesIn T.K C=true
 f:findIn T.K (.ref C) "__init__"=some (some (.ref fI))
 i:isFn T.K (.ref fI)=true
structure TC (T:i7) (P:Pg):Prop extends TQ T P where
 ctor:∀c C cd k,T.cls c=some C->P.pC[c]? =some cd->cd.init=some k->∃fI,(cd.keeps=true->T.fn k=some fI)∧NA T C fI
 ER:∀c C,T.cls c=some C->keepIn T.K (.ref C)=true
section
noncomputable abbrev vA (h:Heap) (C:Addr):Heap:=(h.push emptyDict).push (instObj C h.objs.size)
structure Nu (h:Heap) (C:Addr):Prop where
 k:∀b o,h.get? b=some o->(vA h C).get? b=some o
 d:(vA h C).get? h.objs.size=some emptyDict
 x:(vA h C).get? (h.objs.size+1)=some (instObj C h.objs.size)
theorem JF (h:Heap) (C:Addr):Nu h C:=⟨λb o e=>OT _ (OT _ e),OT _ (OU _ rfl),by heap_get⟩
theorem zP (tk:E5 T P) (c:d9 T W U Y s.heap) {cc:Nat} {C:Addr} (hC:T.cls cc=some C):i4 T W U s (Y++[.map λJ=>none]++[.inst cc Y.length]) (U++[s.heap.objs.size]++[s.heap.objs.size+1]) {s with heap:=vA s.heap C}:=by
 have o1:=i4.ct (s:=s) (ob:=emptyDict) (o:=.map λJ=>none) c rfl λJ=>⟨[],v3 (strKind T.prog T.w) (n:=0) (OU _ rfl),O1 tk c,λJ=>.none,λJ q=>nomatch q⟩
 have e1:(U++[s.heap.objs.size])[Y.length]? =some s.heap.objs.size:=c.len▸List.getElem?_concat_length ..
 have o:=o1.trans (i4.ct (s:={s with heap:=s.heap.push emptyDict}) (ob:=instObj C s.heap.objs.size) (o:=.inst cc Y.length) o1.rel rfl λJ=>⟨C,s.heap.objs.size,hC,aP e1,OU _ rfl⟩)
 rwa [show({s with heap:=s.heap.push emptyDict}:Shared).heap.objs.size=s.heap.objs.size+1 from Heap.size_push _ _]at o
theorem S6 {A:Around} {args:List Value} {C:Addr} (ar:Ar T W A (n+1) h):Ar T W (A.under (.builtin "type.__call__" ⟨.ref C::args,[]⟩)) n h:=
 ⟨ar.handled,(M3 ar.depth (by decide):A.depth+1+2 * n≤900),(M3 ar.units (OO rfl):A.units+(Code.builtin "type.__call__" ⟨.ref C::args,[]⟩).cUnits+20 * n≤9000),match ar.frames with|⟨fs,e,f,w⟩=>⟨fs,e,f,w⟩⟩
theorem zF (tc:TC T P) (hrun:SRun T n r.run) (c:d9 T W U Y s.heap) (ar:Ar T W A (n+1) s.heap) {cc k:Nat} {C:Addr} {cd:Cd} {vs:List V} {ws:List Value} (hC:T.cls cc=some C) (hcd:P.pC[cc]? =some cd) (hi:cd.init=some k) (hk:cd.keeps=true) (q:E4 T W U s.heap vs ws)
 (h:((r.run k (.loc (Y.length+1)::vs) (Y++[.map (λJ=>none),.inst cc Y.length])).z6.bind λv c7=>(b8 85 (F8 v) c7).bind λJ c7=>.ok (.loc (Y.length+1)) c7).c4 (KV T W U s Q) (XV T W U s E)):wpAny (model T.prog T.w) A (PySem.call (.ref C) ws) Q E s:=by
 obtain⟨fI,hf,hm⟩:=tc.ctor cc C cd k hC hcd hi
 have X:=k7 tc.toE5 c
 refine wpAny_call (make_core (makes_of X hm.m) (looks_findIn X hm.f) (λself=>bind_fn X self (beq_iff_eq.mp hm.i)) (.inl rfl) ?_)
 have o:=zP tc.toE5 c hC
 have hx:(U++[s.heap.objs.size]++[s.heap.objs.size+1])[Y.length+1]? =some (s.heap.objs.size+1):=by
  have:Y.length+1=(U++[s.heap.objs.size]).length:=by rw[List.length_append,c.len];rfl
  rw[this];exact List.getElem?_concat_length ..
 refine hrun (A:=A.under _) o.rel (S6 (ar.ext o.ext)) (hf hk) (.cons _ _ _ _ rfl (.loc _ _ hx) (o.ext.IT q)) ?_
 rw[List.append_assoc]
 exact R.c4.mono (R.J5 (R.d5.mp h)) (λv c7 kk w s3 Bs o3 hv J=>a9 kk λJ e kk=>I9 hv e ⟨rfl,kk _ _ _ (o.trans o3) (.mk _ _ (.loc _ _ (o3.ext.pre _ _ hx))) (G1.not rfl)⟩) λJ J x=>x.elim
end
theorem yI (m:Fr) (a:Nat) (v:V):(putN m a v).length≤m.length+1:=by
 unfold putN qK
 induction m.any λp=>Nat.beq p.1 a with
 |true=>exact OV (Nat.le_of_eq (OZ ..)) (Nat.le_succ _)
 |false=>exact Nat.le_of_eq (List.length_append ..)
noncomputable def JM (x:Nat) (p:List Nat×Bool×X):S:=bif p.2.1 then .H4 (p.1.map λa=>.attr (.OK x) a) p.2.2 else .assign (.attr (.OK x) (p.1.headD 0)) p.2.2
section
variable {F:Fx T} {z:Zt} {x dx C:Addr} {sn:Str} {at_:Fr}
inductive LC (T:i7) (z:Zt) (dx:Addr) (at_:Fr):Prop
 |mk (kws:List (Str×Value)) (d:z.s.heap.DictOf (strKind T.prog T.w) dx kws) (r:J8 T z.U (k9 T z.W z.U) z.s.heap T.nm at_ kws)
structure Mk (F:Fx T) (z:Zt) (x dx C:Addr) (sn:Str) (at_:Fr):Prop where
 lx:l8 F z x
 ld:l8 F z dx
 ox:z.s.heap.get? x=some (instObj C dx)
 dd:LC T z dx at_
 held:n7 z.W F.env z.s.heap sn (.ref x)
theorem n7.re {W W':r9} {U:List Addr} {env:Env} {own:List (Nat×Addr)} {h:Heap} {x0:Nat} {w:Value} (c:G2 T W' U env own m h) (hk:s6 T env.kindOf x0) (x:n7 W env h (T.nm x0) w):n7 W' env h (T.nm x0) w:=by
 induction x with
 |loc f k n e=>exact .loc f k n e
 |P0 ca k hc o i=>induction hk with
  |loc _ q=>exact k.elim (λk=>S9 q k nofun) λk=>S9 q k nofun
  |P0 _ q=>exact match c.has _ q with|⟨ca',v',hc',o',i'⟩=>.P0 ca k hc ((ON (hc'.symm.trans hc))▸o') i
theorem Mk.hold {G:Prop} (k:Mk F z x dx C sn at_) (f:Fs F z m Y) (g:∀H Hv,Fs (F.hold H Hv) z m Y->(∀{z':Zt} {m':Fr} {c7:Hp},Fs (F.hold H Hv) z' m' c7->n7 z'.W F.env z'.s.heap sn (.ref x)->Mk F z' x dx C sn at_)->G):G:=match k.dd with
 |⟨kws,d,r⟩=>(l9 d).elim λod ed=>g [(dx,od,true),(x,instObj C dx,true)] ((at_.map Prod.snd).zip (kws.map Prod.snd)) (f.holds (λa o b q=>(OW q).elim (λe=>by cases e;exact k.ld.Fe f ed) λq=>by cases OX q;exact k.lx.Fe f k.ox) λv w q=>have y:=W9 r.r v w q;⟨y.1,y.2⟩)
  λ{z' m' c7} f' hd=>
   have yd:=f'.hd.objs dx od true (.head _)
   have yx:=f'.hd.objs x _ true (.tail _ (.head _))
   ⟨⟨yx.own rfl,yx.nn,yx.nc,k.lx.new,k.lx.out,k.lx.held⟩,⟨yd.own rfl,yd.nn,yd.nc,k.ld.new,k.ld.out,k.ld.held⟩,yx.at_,⟨kws,B7 d λo e=>(ON (ed.symm.trans e))▸yd.at_,r.e,eS r.r.length λv w q=>have y:=f'.hd.vals v w (OQ _ q);⟨y.g,y.r⟩⟩,hd⟩
theorem Mk.step (k:Mk F z x dx C sn at_) (f:Fs F z m Y) (o:i4 T z.W z.U z.s c7 d7 s'):Mk F (z.to d7 s') x dx C sn at_:=have hd:=n7.step f k.held o;k.hold f λJ J f' g=>g (z':=z.to d7 s') (f'.step o) hd
theorem Mk.put {Q:Unit->Shared->Prop} {E:Value->Shared->Prop} (tk:E5 T P) (f:Fs F z m Y) {cc a x0:Nat} (mk:Mk F z x dx C (T.nm x0) at_) (hC:T.cls cc=some C) (hxd:x≠dx) {t':Ex} (tt:qf T F.env.kindOf (.attr (.OK x0) a) t') (hz:at_.length≤1000) (g:solid v=true) (hv:eP T z.W z.U z.s.heap v w)
 (k:∀h' t,Fs F (z.hp h' t) m Y->Mk F (z.hp h' t) x dx C (T.nm x0) (putN at_ a v)->Ms z.U z.U (k9 T z.W z.U) (k9 T z.W z.U) (λb=>b=dx) z.s.heap h'->Q () {z.s with heap:=h',toks:=t}):wpAny (model T.prog T.w) F.A (assign t' F.env w) Q E z.s:=by
 cases tt with
 |attr _ _ o' q to hf=>
  rw[arm_assign_Attribute]
  refine OL (Pd (to.P5 λp hcl J J=>D9 (h:=z.s.heap) f.cx.fr.kind hcl mk.held (OL (Pk (OL (Pd ?_))))))
  exact match mk.dd with
   |⟨kws,hd,r⟩=>Z8 (k7 tk f.cx.rel) (tk.sf _ hf cc C hC) mk.ox hd (r.len▸hz) λh' t hd' hs'=>
    have ms:=f.cx.rel.T3 (W':=z.W) (λJ q=>.inl q) (SameBut.off hs') λa q=>.inr ((show a=dx from q)▸mk.ld.C9)
    wpAny_release (k h' t (f.cU (D:=λb=>b=dx) (λb e=>(show b=dx from e)▸mk.ld) (SameBut.off hs') λb e=>(show b=dx from e)▸l9 hd')
     ⟨mk.lx.ix rfl rfl,mk.ld.ix rfl rfl,(hs'.2 x hxd).trans mk.ox,⟨_,hd',(r.ms ms).set (X0 tk) g (hv.ms ms)⟩,mk.held.to (λf' n=>ji n λo e=>(hs'.2 _ (f.nL mk.ld.C9).symm).trans e) λy c hc o=>⟨o,λob e=>(hs'.2 c λq=>mk.ld.cell y (q▸hc)).trans e⟩⟩ ms)
section
variable {cc x0:Nat} (tk:E5 T P) (hC:T.cls cc=some C) (hxd:x≠dx)
include tk hC hxd
theorem GV {Q:Unit->Shared->Prop} {as:List Nat}:∀{ts:List Ex} {xs:List V} {ws:List Value} {at_:Fr} {z:Zt},Fs F z m Y->Mk F z x dx C (T.nm x0) at_->mG T F.env.kindOf (as.map λa=>.attr (.OK x0) a) ts->E4 T z.W z.U z.s.heap xs ws->xs.length=as.length->at_.length+as.length≤1000->
 (∀z',Fs F z' m Y->Mk F z' x dx C (T.nm x0) (putL at_ as xs)->Q () z'.s)->wpAny (model T.prog T.w) F.A (assignInOrder ((assignEach ts F.env).map (·.2)) ws) Q E z.s:=by
 induction as with
 |nil=>
  intro ts xs ws at_ z f mk ta q h1 _ k
  cases ta
  cases q with
  |nil=>exact OM (k z f mk)
  |cons=>exact nomatch h1
 |cons a as ih=>
  intro ts xs ws at_ z f mk ta q h1 hz k
  cases ta with
  |cons _ t' _ ts tt tr=>cases q with
   |nil=>exact nomatch h1
   |cons v w vs ws g hv q=>
    rw[bw tt]
    show wpAny _ F.A (do holding ws (assign t' F.env w);assignInOrder ((assignEach ts F.env).map (·.2)) ws) Q E z.s
    exact OL (Pd (Mk.put tk f mk hC hxd tt (OV (Nat.le_add_right _ _) hz) g hv λh' t f' mk' ms=>
     ih f' mk' tr (q.ms ms) (Nat.succ.inj h1) (OV (Nat.add_le_add_right (yI at_ a v) _) (by rw[Nat.add_assoc,Nat.add_comm 1];exact hz)) k))
variable {Q:Flow->Shared->Prop} {K:Fr->Hp->Prop} (hr:g7 T n r.ev) (rm:Rm F n)
include hr rm
theorem Ax (hs:s6 T F.env.kindOf x0) {as:List Nat} {e:X} {st:PySem.Stmt} {c:Fr->Hp->R Fr} (f:Fs F z m Y) (mk:Mk F z x dx C (T.nm x0) at_) (ts:I8 T F.env.kindOf (JM x0 (as,false,e)) st)
 (h:((r.ev m e Y).bind λv Y=>(b8 87 (freeze v) Y).bind λv Y=>(b8 87 (y0 as) Y).bind λa Y=>bif Nat.ble at_.length 1000 then c (putN at_ a v) Y else .no 87).c4 K (XF F E))
 (k:∀at_ z Y,Fs F z m Y->Mk F z x dx C (T.nm x0) at_->(c at_ Y).c4 K (XF F E)->Q .next z.s):wpAny (model T.prog T.w) F.A (exec st F.env) Q E z.s:=
 I8.jY (G:=λst=>wpAny (model T.prog T.w) F.A (exec st F.env) Q E z.s) (t:=.attr (.OK x0) (as.headD 0)) (e:=e) ts (λt' e' p tt te hc J=>by
  rw[arm_exec_Assign]
  refine OL (Pk ?_)
  rw[iW tt te hc]
  refine OL (OM ?_)
  rw[Pq Bool.false_ne_true]
  refine OL (mk.hold f λH Hv f' back=>Fs.eval (F:=F.hold H Hv) hr rm.r f' te h λv c9 w c5 c8 o hv hf h=>?_)
  rw[cV tt]
  refine OL (OM ?_)
  rw[bw tt]
  show wpAny _ F.A (do assign t' F.env w;pure Flow.next) _ E c5
  have hd:=n7.step f mk.held o
  refine a9 h λv' ev h=>a9 h λa ea h=>q8 h λhz h=>Fs.give (F:=F.hold H Hv) f' o hv hf λiQ z8 gv=>Fs.freeze (F:=F.hold H Hv) z8 gv ev λbI B9 g hv'=>?_
  rw[B3 ea]at tt
  exact OL (Mk.put (z:=⟨bI,z.own,c8,c5⟩) tk B9.y7 (back B9 (n7.re B9.cx.fr hs hd)) hC hxd tt (OO hz) g hv' λh' t Q2 JK J=>OM (k _ ((⟨bI,z.own,c8,c5⟩:Zt).hp h' t) _ Q2 JK h))) λJ J J J J J J J J ex=>ns ex
theorem wJ {as:List Nat} {e:X} {st:PySem.Stmt} {c:Fr->Hp->R Fr} (f:Fs F z m Y) (mk:Mk F z x dx C (T.nm x0) at_) (ts:I8 T F.env.kindOf (JM x0 (as,true,e)) st)
 (h:((r.ev m e Y).bind λv Y=>(b8 87 (wC v) Y).bind λvs Y=>bif Nat.beq vs.length as.length&&Nat.ble (at_.length+as.length) 1000 then c (putL at_ as vs) Y else .no 87).c4 K (XF F E))
 (k:∀at_ z Y,Fs F z m Y->Mk F z x dx C (T.nm x0) at_->(c at_ Y).c4 K (XF F E)->Q .next z.s):wpAny (model T.prog T.w) F.A (exec st F.env) Q E z.s:=
 I8.eW (G:=λst=>wpAny (model T.prog T.w) F.A (exec st F.env) Q E z.s) (ts:=as.map λa=>.attr (.OK x0) a) (x:=e) ts λts' e' i q p tt te h1 h2=>Assign_Tuple (f.eval hr rm.r te h λv c9 w c5 c8 o hv hf h=>a9 h λxs ex h=>q8 h λhz h=>a7 hz λhz1 hz2=>match U9 (E:=E) tk hr rm tt with
  |⟨_,e1,e2⟩=>
   have hl:=Pc hz1
   iT f.cx.ar.handled hv ex (e1.trans ((OZ ..).trans hl.symm)) e2 λws qs h' he=>
    have i8:i4 T z.W c8 c5 c9 c8 {c5 with heap:=h'}:=i4.keeps (t:=c5.toks) o.rel he
    have JL:=(mk.step f o).step (f.step o) i8
    GV (z:=z.to c8 {c5 with heap:=h'}) tk hC hxd ((f.step o).step i8) JL tt (i8.ext.IT qs) hl (OO hz2) λz' f' mk'=>k _ z' _ f' mk' h) (pw te h2) (sU te h1)
theorem DP (hs:s6 T F.env.kindOf x0) {cs:List (List Nat×Bool×X)}:∀{body:List PySem.Stmt} {at_:Fr} {z:Zt} {Y:Hp},Fs F z m Y->Mk F z x dx C (T.nm x0) at_->sI T F.env.kindOf (cs.map (JM x0)) body->
 (gR r m cs at_ Y).c4 K (XF F E)->(∀at_ Y z,K at_ Y->Fs F z m Y->Mk F z x dx C (T.nm x0) at_->Q .next z.s)->wpAny (model T.prog T.w) F.A (execs body F.env) Q E z.s:=by
 induction cs with
 |nil=>exact λf mk ta h k=>by cases ta;exact wpAny_execs_nil (k _ _ _ h f mk)
 |cons p cs ih=>
  intro body at_ z Y f mk ta h k
  obtain⟨as,b,e⟩:=p
  cases ta with
  |cons _ st _ ss ts tb=>induction b with
   |false=>exact wpAny_execs_cons (Ax tk hC hxd hr rm hs (c:=gR r m cs) f mk ts h λat_ z Y f mk h=>ih f mk tb h k)
   |true=>exact wpAny_execs_cons (wJ tk hC hxd hr rm (c:=gR r m cs) f mk ts h λat_ z Y f mk h=>ih f mk tb h k)
end
end
inductive Maker (T:i7) (C:Addr) (cd:Cd) (fd:Fd):Prop
 |mk (fI:Addr) (x0:Nat) (ps:List Nat) (f:findIn T.K (.ref C) "__init__"=some (some (.ref fI))) (e:fd.params=x0::ps) (h:Er T fI fd λkd body=>sI T kd (cd.body.map (JM x0)) body)
structure TD (T:i7) (P:Pg):Prop extends TC T P where
 make:∀c C cd k fd,T.cls c=some C->P.pC[c]? =some cd->cd.init=some k->cd.keeps=false->P.fns[k]? =some fd->Maker T C cd fd
section
theorem two_all {p:Addr->Prop} {a b:Addr} (ha:p a) (hb:p b):∀d,d∈[a,b]->p d:=λd q=>(OW q).elim (λe=>e▸ha) λq=>OX q▸hb
theorem rA {A:Around} {args:List Value} {C:Addr} {env:Env} (ar:Ar T W A (n+1) h):N7 ((A.under (.builtin "type.__call__" ⟨.ref C::args,[]⟩)).deeper env) n:=by
 exact⟨(M3 ar.depth (Pw 2):A.depth+2+2 * n≤900),(M3 ar.units (OO rfl):A.units+((Code.builtin "type.__call__" ⟨.ref C::args,[]⟩).cUnits+3)+20 * n≤9000)⟩
theorem zj (td:TD T P) (hr:g7 T n r.ev) (c:d9 T W U Y s.heap) (ar:Ar T W A (n+1) s.heap) {cc k:Nat} {C:Addr} {cd:Cd} {fd:Fd} {vs:List V} {ws:List Value} (hC:T.cls cc=some C) (hcd:P.pC[cc]? =some cd) (hi:cd.init=some k) (hk:cd.keeps=false) (hfd:P.fns[k]? =some fd) (q:E4 T W U s.heap vs ws)
 (h:((b8 86 (U6 ⟨fd.params.tail,fd.dD,[]⟩ vs) Y).bind λm Y=>(gR r m cd.body [] Y).z6.bind λat_ Y=>.ok (.obj cc at_) Y).c4 (KV T W U s Q) (XV T W U s E)):wpAny (model T.prog T.w) A (PySem.call (.ref C) ws) Q E s:=by
 obtain⟨fI,_,hm⟩:=td.ctor cc C cd k hC hcd hi
 obtain⟨fI',x0,ps,hfi',hps,hF⟩:=td.make cc C cd k fd hC hcd hi hk hfd
 rw[hm.f]at hfi'
 obtain rfl:fI=fI':=Value.ref.inj (ON (ON hfi'))
 have X:=k7 td.toE5 c
 refine a9 h λm em h=>i9 em λg em=>a7 g λg1 g2=>wpAny_call (make_core (makes_of X hm.m) (looks_findIn X hm.f) (λself=>bind_fn X self (beq_iff_eq.mp hm.i)) (.inl rfl) ?_)
 have nh:=JF s.heap C
 have nw:∀d,d∈[s.heap.objs.size,s.heap.objs.size+1]->s.heap.get? d=none:=two_all (none_at_size _) (Heap.get?_none_of_le (Nat.le_succ _))
 have ne:s.heap.objs.size+1≠s.heap.objs.size:=Nat.ne_of_gt (Nat.lt_succ_self _)
 have ee:fd.params.length - (Value.ref (s.heap.objs.size+1)::ws).length=fd.params.tail.length - vs.length:=by rw[hps,List.length_cons,List.length_cons,q.length];exact Nat.add_sub_add_right _ 1 _
 have rm:∀env,N7 ((A.under (.builtin "type.__call__" ⟨.ref C::ws,[]⟩)).deeper env) n:=λenv=>rA ar
 have ar2:Ar T (W.add [s.heap.objs.size,s.heap.objs.size+1]) (A.under (.builtin "type.__call__" ⟨.ref C::ws,[]⟩)) n (vA s.heap C):=(S6 ar).mv (W':=W.add [s.heap.objs.size,s.heap.objs.size+1]) (λJ q=>q) (Off.of_keeps (S:=λJ=>False) nh.k) (λJ J q=>q.elim)
 refine Q6 td.toE5 hF (A:=A.under _) (own:=[]) (W0:=W) (Z4:=U) (s0:=s) (m:=m) (c.adopt nh.k nw (two_all ⟨_,nh.d⟩ ⟨_,nh.x⟩)) (ar2.le (Nat.zero_le n)) ?_ ?_ (i4.keeps (t:=s.toks) c nh.k) (s8.add nw).v5 (λa ha=>(c.o5.own a ha).ex) (S6 ar).frames (λJ J J q=>nomatch q) (λJ J q=>nomatch q)
  (by rw[hps,List.length_cons,List.length_cons,q.length];exact Nat.succ_le_succ (by rw[hps]at g1;exact OO g1)) (by rw[ee];exact OO g2) (λx v e=>?_) λenv W1 s' body E' en htr=>?_
 ·exact(bZ ar.depth (Pw 2):A.depth+2≤900)
 ·exact(bZ ar.units (OO rfl):A.units+((Code.builtin "type.__call__" ⟨.ref C::ws,[]⟩).cUnits+3)≤9000)
 ·rw[←em]at e
  obtain⟨j,h1,h2⟩:=iS e
  rw[hps]at h1
  by_cases hj:j < vs.length
  ·rw[Pn hj]at h2
   exact q.at h2 λw hw g hv=>.arg (j+1) w (hps▸h1) hw (.pl v w g (hv.ms (bH nh.k nw)))
  ·rw[List.getElem?_append_right (Pr hj),←ee]at h2
   exact .dD (j - vs.length) (by rw[hps,List.length_cons,q.length,Nat.succ_add,Nat.add_sub_cancel' (Pr hj)];exact h1) h2
 ·have h0:fd.params[0]? =some x0:=hps▸rfl
  have lo:∀{b ob},b∈[s.heap.objs.size,s.heap.objs.size+1]->(vA s.heap C).get? b=some ob->l8 (T:=T) ⟨(A.under (.builtin "type.__call__" ⟨.ref C::ws,[]⟩)).deeper env,env,W,U,s,[],[]⟩ ⟨W1,[],U,s'⟩ b:=λ{b ob} hb eb=>⟨en.own _ (OQ _ hb),λJ q=>(nomatch q),λy q=>d0 (en.wQ y b q) eb,nw b hb,λz=>(c.o5.own b z).ex.elim λo e=>d0 (nw b hb) e,λJ J q=>nomatch q⟩
  refine DP (T:=T) (F:=⟨(A.under _).deeper env,env,W,U,s,[],[]⟩) (z:=⟨W1,[],U,s'⟩) (K:=λat_ c7=>KV T W U s Q (.obj cc at_) c7) td.toE5 hC ne hr ⟨rm env,en.cn⟩ (en.set x0 (Pm h0)) en.fs ⟨lo (.tail _ (.head _)) nh.x,lo (.head _) nh.d,en.keep _ _ nh.x,⟨[],B7 (v3 (strKind T.prog T.w) (n:=0) nh.d) (en.keep _),.nil⟩,en.held 0 x0 _ h0 rfl⟩ htr
   (R.c4.mono (R.J5 (R.d5.mp h)) (λJ J q=>q) λJ J x=>x.elim) λat_ c7 z kq f mk=>⟨rfl,?_⟩
  have v5:=f.st.v5
  have nb:∀{b},l8 (T:=T) ⟨(A.under (.builtin "type.__call__" ⟨.ref C::ws,[]⟩)).deeper env,env,W,U,s,[],[]⟩ z b->¬k9 T W z.U b:=λ{b} l y=>y.elim (λy=>(f.cx.rel.o5.own b l.C9).nm (.inl y)) λy=>y.elim (λy=>(f.cx.rel.o5.own b l.C9).nm (.inr (.inl (v5.l6 b y)))) λy=>y.elim l.out λy=>(f.cx.rel.o5.own b l.C9).nm (.inr (.inr y))
  exact match mk.dd with|⟨kws,hd,r⟩=>kq _ _ z.U f.out (.mk _ _ (.obj cc C at_ _ _ kws hC mk.ox (nb mk.lx) hd (nb mk.ld) r.e (r.r.ms (v5.ms z.s.heap)))) (G1.not rfl)
theorem lN (td:TD T P) (hr:g7 T n r.ev) (hrun:SRun T n r.run) (c:d9 T W U Y s.heap) (ar:Ar T W A (n+1) s.heap) {cc:Nat} {C:Addr} {vs:List V} {ws:List Value} (hC:T.cls cc=some C) (q:E4 T W U s.heap vs ws)
 (h:(jP P r cc vs Y).c4 (KV T W U s Q) (XV T W U s E)):wpAny (model T.prog T.w) A (PySem.call (.ref C) ws) Q E s:=
 a9 h λcd hcd h=>a9 h λk hi h=>by
  induction hk:cd.keeps with
  |true=>rw[hk]at h;exact zF td.toTC hrun c ar hC hcd hi hk q h
  |false=>rw[hk]at h;exact a9 h λfd hfd h=>zj td hr c ar hC hcd hi hk hfd q h
theorem xb (td:TD T P) (hr:g7 T n r.ev) (hrun:SRun T n r.run) (c:Cx T W (n+1) A env own m U Y s) {f:X} {es:List X} {e':Ex} (t:Tr T env.kindOf (.call f es) e') (h:(s7 P r m (.call f es) Y).c4 (KV T W U s Q) (XV T W U s E)):wpAny (model T.prog T.w) A (eval e' env) Q E s:=
 t.lO λid q es' p tf ts J=>by
  rw[u9]
  refine OL (Bw hr c.low tf h λfv c9 wf c5 c8 w3 vf h=>w7 h (λh=>a9 h λb eb h=>?_) λh=>w7 h (λh=>a9 h λk ek h=>?_) λh=>a9 h λcc ec h=>?_)
  ·rw[mx eb]at vf
   exact vf.Fy (Ea td.toTN hr (c.low.mv w3) ts h)
  ·rw[mq ek]at vf
   exact vf.Ku λa ha=>uA td.toTM hr hrun (c.low.mv w3) ts ha (first:=[]) .nil h
  ·rw[qa ec]at vf
   exact vf.HZ λC hC=>bD td.toE5 hr (c.low.mv w3) ts (keeps_K (td.ER cc C hC)) h λvs n9 ws l3 o7 i8 q h=>lN td hr hrun i8.rel ((c.mv w3).mv i8).ar hC q (c4.step i8 h λJ J q=>q.step i8)
end
end Mine
end
section
open PySem PySem.W PySem.Calls
open Builtin Builtin.ObjectAttr
namespace Mine
noncomputable abbrev B0 (C t:Addr):Obj:={cls:=.ref C,data:=.fields #[.ref t,.none,.none,.none,.bool false,.none]}
variable {prog:Program} {w:World} {A:Around} {E:Value->Shared->Prop} {h:Heap} {g:Array GenState} {d:Drawn} {t:Nat} {os:OsState} {nm q:Str} {C N:Addr} {bs bmB sub:List Value} {sn:List Str} {ab:Bool} {col:Option Bool} {dd:Option Addr} {k0 k1 k2 k3 k5:Option Value} {B newId initId:String}
section
variable {bm:List Value} {hdct:Bool}
theorem wN {R:Result->Shared->Prop} (F:ExcBaseFacts B newId initId bmB) (hcB:(Value.ref C::bm).contains (.type B)=true) (hcA:(Value.ref C::bm).contains (.type "AttributeError")=false) (hcN:(Value.ref C::bm).contains (.type "NameError")=false) {rest:List Value} (hC:h.get? C=some (excClassObj nm q C N bs bm hdct sn sub ab col dd k0 k1 k2 k3 k5 newId))
 (hq:R (.ok (.ret (.ref (h.objs.size+1)))) ⟨(h.push {cls:=.type "tuple",data:=.seq rest.toArray}).push (B0 C h.objs.size),g,d,t,os⟩) (hrest:rest.length≤sizeLine):
 codeAny (model prog w) A (.builtin newId ⟨.ref C::rest,[]⟩) R ⟨h,g,d,t,os⟩:=by
 have hends:=F.ends
 refine codeAny_builtinAt F.entry ?_
 unfold Builtin.«BaseException.__new__»
 refine wpAt_bind ?_
 show wpAt _ _ _ (stack >>= _) _ _ _
 refine wpAt_bind (wpAt_stack λp below=>wpAt_of_wpAny ?_)
 wp_walk
 refine wpAt_of_wpAny ?_
 rw[F.owner]
 repeat (first|with_reducible refine wpAny_madeHere_exc F.canon hC ?_|with_reducible refine wpAny_loadPart_at hC ?_|(with_reducible refine wpAny_isSubtype_exc hC ?_;first|rw[hcB]|rw[hcA]|rw[hcN])|wp_step)
 show R _ _
 rw[Heap.size_push]
 exact hq
theorem qq (F:ExcBaseFacts B newId initId bmB) (hcb:bm.contains (.type B)=true) (hcB:(Value.ref C::bm).contains (.type B)=true) (hcA:(Value.ref C::bm).contains (.type "AttributeError")=false) (hcN:(Value.ref C::bm).contains (.type "NameError")=false) {rest:List Value} {fI:Addr} {oI:Obj} {Q:Fin->Shared->Prop}
 (hC:h.get? C=some (excClassObj nm q C N bs bm hdct sn sub ab col dd k0 k1 k2 k3 k5 newId)) (hi:Looks (model prog w) h (typeLookup (.ref C) "__init__") (some (.ref fI))) (hfI:h.get? fI=some oI) (hfc:oI.cls=.type "function")
 (hq:wpAny (model prog w) A (call (.ref fI) (.ref (h.objs.size+1)::rest)) (λr s'=>r=.none∧Q (.done (.ret (.ref (h.objs.size+1)))) s') E ⟨(h.push {cls:=.type "tuple",data:=.seq rest.toArray}).push (B0 C h.objs.size),g,d,t,os⟩) (hrest:rest.length≤sizeLine):
 wpAny (model prog w) A (Builtin.«type.__call__» ⟨.ref C::rest,[]⟩) Q E ⟨h,g,d,t,os⟩:=by
 repeat (first|with_reducible refine wpAny_loadPart_at hC ?_|with_reducible refine wpAny_madeBy_exc hC ?_|wp_step)
 refine codeAny_call_builtin_code (Code.quiet_builtin _ F.quiet) (wpAny_check_new_subU F (bmB:=bm) hcb .base hC ?_)
 refine wN F hcB hcA hcN hC ?_ hrest
 show wpAny _ _ _ _ _ _
 have kp:∀b o,h.get? b=some o->((h.push {cls:=.type "tuple",data:=.seq rest.toArray}).push (B0 C h.objs.size)).get? b=some o:=λb o e=>OT _ (OT _ e)
 have Kr:=kp _ _ hC
 have HC:=kp _ _ hfI
 have hget:((h.push {cls:=.type "tuple",data:=.seq rest.toArray}).push (B0 C h.objs.size)).get? (h.objs.size+1)=some (B0 C h.objs.size):=by heap_get
 have hcC:(Value.ref C::bm).contains (.ref C)=true:=by simp
 unfold isInstance
 repeat (first|with_reducible refine wpAny_loadPart_at hget ?_|(with_reducible refine wpAny_isSubtype_exc Kr ?_;rw[hcC])|wp_step)
 show wpAny _ _ (typeLookup (.ref C) _) _ _ _
 refine(hi.keeps kp).at ?_
 refine Pd (OL ?_)
 unfold bindSpecial
 refine OL (wpAny_typeOf (T:="function") ⟨_,HC,hfc⟩ ?_)
 rw[Pp (by decide)]
 refine OM (OL (wpAny_mono hq (λr s' hr=>?_) λJ J x=>x))
 obtain⟨rfl,hQ⟩:=hr
 wp_walk
 exact hQ
theorem xc (F:ExcBaseFacts B newId initId bmB) (hcb:bm.contains (.type B)=true) (hcB:(Value.ref C::bm).contains (.type B)=true) (hcA:(Value.ref C::bm).contains (.type "AttributeError")=false) (hcN:(Value.ref C::bm).contains (.type "NameError")=false) {rest:List Value} {fI:Addr} {oI:Obj} {Q:Value->Shared->Prop}
 (hC:h.get? C=some (excClassObj nm q C N bs bm hdct sn sub ab col dd k0 k1 k2 k3 k5 newId)) (hi:Looks (model prog w) h (typeLookup (.ref C) "__init__") (some (.ref fI))) (hfI:h.get? fI=some oI) (hfc:oI.cls=.type "function")
 (hq:wpAny (model prog w) (A.under (.builtin "type.__call__" ⟨.ref C::rest,[]⟩)) (call (.ref fI) (.ref (h.objs.size+1)::rest)) (λr s'=>r=.none∧Q (.ref (h.objs.size+1)) s') E ⟨(h.push {cls:=.type "tuple",data:=.seq rest.toArray}).push (B0 C h.objs.size),g,d,t,os⟩) (hrest:rest.length≤sizeLine):
 wpAny (model prog w) A (call (.ref C) rest) Q E ⟨h,g,d,t,os⟩:=by
 have f1:=tc_lookup
 have f2:=tc_bind (.ref C)
 have hT:(⟨h,g,d,t,os⟩:Shared).TypeIs (.ref C) "type":=⟨_,hC,rfl⟩
 refine wpAny_call (codeAny_of_tree ?_)
 show wpAny _ _ (callAny (.ref C) _) _ _ _
 repeat (any_goals (first|assumption|with_reducible refine wpAny_loadPart_at hC ?_|wp_step))
 refine⟨rfl,?_⟩
 exact codeAny_call_builtin_at (Code.quiet_builtin _ (by decide+kernel)) entry_typeCall (wpAny_check_type_call_sub hC (qq F hcb hcB hcA hcN hC hi hfI hfc hq hrest))
theorem Gs {s:Shared} {env:Env} {x:Sem Value} {Q:Flow->Shared->Prop} (hbase:(Value.ref C::bm).contains (.type "BaseException")=true) (hh:A.handled=none)
 (k:wpAny (model prog w) A x (λv c5=>∃e t od,v=.ref e∧c5.heap.get? C=some (excClassObj nm q C N bs bm hdct sn sub ab col dd k0 k1 k2 k3 k5 newId)∧c5.heap.get? e=some {B0 C t with dict:=od}∧E (.ref e) c5) E s):
 wpAny (model prog w) A (raiseStmt env (some x) none) Q E s:=by
 unfold raiseStmt
 refine OL (wpAny_mono k (λv c5 n6=>?_) λJ J x=>x)
 obtain⟨e,t,od,rfl,hC,he,hE⟩:=n6
 obtain⟨hp,g,d,tk,os⟩:=c5
 repeat (first|with_reducible refine wpAny_loadPart_at he ?_|with_reducible refine wpAny_loadPart_at hC ?_|(with_reducible refine wpAny_isSubtype_exc hC ?_;rw[hbase])|wp_step)
 exact wpAny_raiseNew_none hh hE
theorem pF {M:Model} (F:ExcBaseFacts B newId initId bmB) (hcB:(Value.ref C::bm).contains (.type B)=true) {e:Addr} {oe:Obj} {rest:List Value} {Q:Unit->Shared->Prop} (hC:h.get? C=some (excClassObj nm q C N bs bm hdct sn sub ab col dd k0 k1 k2 k3 k5 newId)) (he:h.get? e=some oe) (hcls:oe.cls=.ref C)
 (hq:Q () ⟨h,g,d,t,os⟩):wpAny M A (checkBuiltinCall initId ⟨.ref e::rest,[]⟩) Q E ⟨h,g,d,t,os⟩:=by
 have hshort:=F.noStar
 simp only[checkBuiltinCall,F.initKind,F.initSplit,F.initRow]
 repeat (first|(with_reducible refine wpAny_loadPart_at he ?_;rw[hcls])|with_reducible refine wpAny_loadPart_at hC ?_|(with_reducible refine wpAny_isSubtype_exc hC ?_;rw[hcB])|wp_step)
 refine wpAny_onRaise ?_
 rw[show∀(a b:String) (n:Nat),Bind.check ⟨.positional,"*",B,.self,[⟨"args",.varPos,false⟩]⟩ a b n (List.map (λx=>x.fst) ({pos:=Value.ref e::rest}:Args).kw)=pure ()from
  λa b n=>check_star_args _ _ _ _ _ _]
 exact OM hq
theorem sq (F:ExcBaseFacts B newId initId bmB) (hcB:(Value.ref C::bm).contains (.type B)=true) {e t0:Addr} {oe:Obj} {vs:Array Value} {rest:List Value} {Q:Value->Shared->Prop} (hC:h.get? C=some (excClassObj nm q C N bs bm hdct sn sub ab col dd k0 k1 k2 k3 k5 newId)) (he:h.get? e=some oe) (hcls:oe.cls=.ref C)
 (hd:oe.data=.fields vs) (h0:vs[0]? =some (.ref t0)) (hq:Q .none ⟨(h.push {cls:=.type "tuple",data:=.seq rest.toArray}).update e (Obj.mapFields (·.setIfInBounds 0 (.ref h.objs.size))),g,d,t,os⟩) (hrest:rest.length≤sizeLine):
 wpAny (model prog w) A (call (.builtin initId) (.ref e::rest)) Q E ⟨h,g,d,t,os⟩:=by
 refine wpAny_call (codeAny_call_builtin F.init.plain F.initEntry (pF F hcB hC he hcls ?_))
 unfold Builtin.«BaseException.__init__»
 dsimp only
 rw[Pq (by simp)]
 unfold newTuple Builtin.BaseException.bexcPut
 have hsz:0 < vs.size:=(Array.getElem?_eq_some_iff.mp h0).1
 have gA:=OT (h:=h) {cls:=.type "tuple",data:=.seq rest.toArray} he
 refine OL (wpAny_newObj_type (OL (OL (wpAny_field gA hd h0 (OL (wpAny_setField gA hd hsz ?_))))) (by show rest.toArray.size≤sizeLine;rw[Ph];exact hrest))
 exact wpAny_letGo (OM hq)
open PyProof.Rows in
theorem kP {K:Frag} {T:String} {OK:Str} {v:Value} {s:Shared} {pl:Sem Bool} {Q:Value×List Value->Shared->Prop} (X:K.In s.heap) (ht:typeOf (.type T)=pure (.type "type")) (hs:Manifest.isStub T=false)
 (e:findCls K (.type T) (.type "type") OK=some (.val v)) (hh:handedIn v=true) (h:Q (v,[]) {s with toks:=s.toks+1}):wpAny (model prog w) A (getMethod (.type T) OK pl) Q E s:=by
 have hstub:opaqueClassAbove (.type T)=pure none:=by unfold opaqueClassAbove;dsimp only;rw[hs];rfl
 have L0:Looks (model prog w) s.heap (typeOf (.type T)) (.type "type"):=Looks.of_pure ht
 have hg:findIn K (.type "type") "__getattribute__"=some (some (.builtin "type.__getattribute__")):=type_tga
 unfold getMethod specialOf
 refine OL (OL (L0.here ((looks_findIn X hg).here ?_)))
 dsimp only
 rw[Pp canon_tga]
 refine OL (wpAny_mono (Q:=λv=>Q (v,[])) (E:=E) ?_ (λJ J z=>OM z) λJ J z=>z)
 have LO:Looks (model prog w) s.heap (opaqueClassAbove (.type T)) none:=Looks.of_pure hstub
 refine cls_open X LO L0 hg (looks_hook X (r:=none) (by rfl)) (by show subIn K _ _=_;rfl) e
  (OM (by show wpAny _ _ (handedOut v) _ _ _;rw[handedOut_of hh];exact OM h))
end
section
variable {prog:Program} {w:World} {A:Around} {E:Value->Shared->Prop} {h:Heap} {g:Array GenState} {d:Drawn} {t:Nat} {os:OsState}
variable {nm q:Str} {C D N x:Addr} {bs bmB:List Value} {sn:List Str} {sub:List Value} {ab:Bool} {col:Option Bool} {dd:Option Addr} {k0 k1 k2 k3 k5:Option Value} {B newId initId:String} {OK:Str} {v:Value} {vs:Array Value} {sl:Array (Option Value)}
theorem wZ {sa owner:String} {M:Model} {o:Obj} {nameV:Value} {Q:Unit->Shared->Prop} (SF:StoreFacts B bmB sa owner)
 (hC:h.get? C=some (excClassObj nm q C N bs (.ref D::bmB) true sn sub ab col dd k0 k1 k2 k3 k5 newId)) (hx:h.get? x=some o) (hc:o.cls=.ref C) (hq:Q () ⟨h,g,d,t,os⟩):
 wpAny M A (checkBuiltinCall sa ⟨[.ref x,nameV,v],[]⟩) Q E ⟨h,g,d,t,os⟩:=by
 have hcB:(Value.ref C::.ref D::bmB).contains (.type owner)=true:=by rw[List.contains_cons,List.contains_cons,SF.hasOwner,Bool.or_true,Bool.or_true]
 have ha:=SF.args (.ref x) nameV v
 simp only[checkBuiltinCall,SF.kind,SF.split]
 refine OL ?_
 ·unfold isInstance
  repeat (first|(with_reducible refine wpAny_loadPart_at hx ?_;rw[hc])|(with_reducible refine wpAny_isSubtype_exc hC ?_;rw[hcB])|wp_step)
  induction hsig:Manifest.signature? sa with
  |none=>exact OM hq
  |some sig=>
   simp only[argsOk,hsig]at ha
   have h2:Bind.checkArgs sa sig ⟨[.ref x,nameV,v],[]⟩=pure ():=ha
   show wpAny M A (Bind.checkArgs sa sig ⟨[.ref x,nameV,v],[]⟩) Q E _
   rw[h2];exact OM hq
theorem kh {T:i7} {tk:Tok} {Q:PySem.Fin->Shared->Prop} (SF:StoreFacts B bmB "object.__setattr__" "object")
 (hC:h.get? C=some (excClassObj nm q C N bs (.ref D::bmB) true sn sub ab col dd k0 k1 k2 k3 k5 newId)) (h2:Looks (model T.prog T.w) h (typeLookup (.ref C) OK) none) (hx:h.get? x=some ⟨.ref C,none,.fields vs,sl⟩)
 (hq:∀h' tk',h'.get? x=some ⟨.ref C,some h.objs.size,.fields vs,sl⟩->h'.DictOf (PySem.strKind T.prog T.w) h.objs.size [(OK,v)]->(∀b o,b≠x->h.get? b=some o->h'.get? b=some o)->Q (.done (.ret .none)) ⟨h',g,d,tk',os⟩):
 wpAny (model T.prog T.w) A (Builtin.«object.__setattr__» ⟨[.ref x,.str OK tk,v],[]⟩) Q E ⟨h,g,d,t,os⟩:=by
 have hpass:=SF.passes (.ref x)
 have Kk:(h.push {cls:=.type "dict",data:=.dict #[]}).get? x=some ⟨.ref C,none,.fields vs,sl⟩:=OT _ hx
 have hxs:x≠h.objs.size:=Nat.ne_of_lt (Pu hx)
 unfold Builtin.«object.__setattr__»
 repeat (first|rw[refuse_eq]|(rw[refuseLoop_ref,refuseLoop_ref,hpass])|with_reducible refine wpAny_loadPart_at hx ?_|with_reducible refine wpAny_mroOf_exc hC ?_|(with_reducible refine OL (h2.at ?_))|wp_step)
 have hgd:((h.push {cls:=.type "dict",data:=.dict #[]}).update x λo=>{cls:=o.cls,dict:=some h.objs.size,data:=o.data,slots:=o.slots}).get? h.objs.size
  =some {cls:=.type "dict",data:=.dict #[]}:=(Heap.get?_update_ne _ _ _ _ hxs.symm).trans (Heap.get?_push_at rfl rfl)
 have hxd:=Heap.get?_update_self (λo=>{cls:=o.cls,dict:=some h.objs.size,data:=o.data,slots:=o.slots}) Kk rfl
 have hoff:∀b o,b≠x->h.get? b=some o->((h.push {cls:=.type "dict",data:=.dict #[]}).update x λo=>{cls:=o.cls,dict:=some h.objs.size,data:=o.data,slots:=o.slots}).get? b=some o:=λb o hb e=>(Heap.get?_update_ne _ _ _ _ hb).trans (OT _ e)
 generalize ((h.push {cls:=.type "dict",data:=.dict #[]}).update x λo=>{cls:=o.cls,dict:=some h.objs.size,data:=o.data,slots:=o.slots})=n6 at hgd hxd hoff
 obtain⟨es,n,es',n',p⟩:=nZ (T:=T) (OK:=OK) (t:=t) (v:=v) (v3 (PySem.strKind T.prog T.w) (n:=0) hgd) hgd
 have hnr:=p.noRef
 cases p.dat
 refine wpAny_askSetting (OM (OL (wpAny_mkText (OL (wpAny_loadPart hgd ?_)))))
 dsimp only
 rw[aRefKeyMayBeTheName_at,hnr]
 refine wpAny_updatePart hgd ?_
 refine OL (wpAny_lookBehind p.at_ (by rw[p.KR];exact pastItsLine_dict (OV p.grow (by rw[sizeLine_eq];decide))) ?_)
 exact OM (hq _ _ ((Heap.get?_update_ne _ _ _ _ hxs).trans hxd) p.dict λb o hb e=>(Heap.get?_update_ne _ _ _ _ (Nat.ne_of_lt (Pu e))).trans (hoff b o hb e))
theorem qG {T:i7} {Q:Unit->Shared->Prop} (SF:StoreFacts B bmB "object.__setattr__" "object")
 (hC:h.get? C=some (excClassObj nm q C N bs (.ref D::bmB) true sn sub ab col dd k0 k1 k2 k3 k5 newId)) (h1:Looks (model T.prog T.w) h (typeLookup (.ref C) "__setattr__") (some (.builtin "object.__setattr__"))) (h2:Looks (model T.prog T.w) h (typeLookup (.ref C) OK) none) (hx:h.get? x=some ⟨.ref C,none,.fields vs,sl⟩)
 (hq:∀h' tk',h'.get? x=some ⟨.ref C,some h.objs.size,.fields vs,sl⟩->h'.DictOf (PySem.strKind T.prog T.w) h.objs.size [(OK,v)]->(∀b o,b≠x->h.get? b=some o->h'.get? b=some o)->Q () ⟨h',g,d,tk',os⟩):
 wpAny (model T.prog T.w) A (setAttr (.ref x) OK v) Q E ⟨h,g,d,t,os⟩:=by
 have f3:=SF.slot.bind (.ref x)
 unfold setAttr callSpecial? specialOf
 repeat (any_goals (first|assumption|with_reducible refine wpAny_loadPart_at hx ?_|(with_reducible refine OL (h1.at ?_))|wp_step))
 dsimp only
 refine h1.at ?_
 repeat (any_goals (first|assumption|wp_step))
 show codeAny _ _ (.call (.builtin "object.__setattr__") ⟨[.ref x,.str OK t,v],[]⟩) _ _
 refine codeAny_call_builtin SF.slot.plain SF.entry ?_
 have z:=λ(Q:Unit->Shared->Prop) (E:Value->Shared->Prop) (A:Around) (t':Nat)=>@wZ A E h g d t' os nm q C D N x bs bmB sn sub ab col dd k0 k1 k2 k3 k5 B newId v _ _ (model T.prog T.w) _ (.str OK t) Q SF hC hx rfl
 refine z _ _ _ _ ?_
 refine kh (T:=T) SF hC h2 hx λh' tk' I' hk hsame=>?_
 repeat (any_goals (first|assumption|wp_step))
 exact hq h' tk' I' hk hsame
end
end Mine
end
section
open PySem PySem.W PyProof.Rows PySem.Calls
namespace Mine
noncomputable def jL (q0 q1 q2 q3 q4 p0 q5 q6 q7 p1:Pos) (self why attr:Str):List PySem.Stmt:=
 [.Expr (.Call (.Attribute (.Name "Exception" q0) "__init__" q1) [.Name self q2,.Name why q3] [] q4) p0,.Assign [.Attribute (.Name self q5) attr q6] (.Name why q7) p1]
inductive LY (T:i7) (x0 x1:Nat) (kd:Kd):List PySem.Stmt->Prop
 |mk (q0 q1 q2 q3 q4 p0 q5 q6 q7 p1:Pos) (hq:(q1.endLine == q4.line)=true) (hk:kd "Exception"=some .globalImplicit):LY T x0 x1 kd (jL q0 q1 q2 q3 q4 p0 q5 q6 q7 p1 (T.nm x0) (T.nm x1) T.why)
noncomputable abbrev Fw:List Value:=[.type "Exception",.type "BaseException",.type "object"]
structure XD where
 nm:Str
 q:Str
 N:Addr
 bs:List Value
 D:Addr
 sn:List Str
 sub:List Value
 ab:Bool
 col:Option Bool
 dd:Option Addr
 k0:Option Value
 k1:Option Value
 k2:Option Value
 k3:Option Value
 k5:Option Value
noncomputable abbrev XD.obj (x:XD) (C:Addr):Obj:=excClassObj x.nm x.q C x.N x.bs (.ref x.D::Fw) true x.sn x.sub x.ab x.col x.dd x.k0 x.k1 x.k2 x.k3 x.k5 "Exception.__new__"
inductive IM (T:i7):Prop
 |mk (mg mb:Str->Option Value) (n1:T.B.Ns mainGlobals mg) (n2:T.B.Ns builtinsNs mb) (g1:mg T.S1=some (.ref T.exc)) (g2:mg "Exception"=none∧mb "Exception"=some (.type "Exception"))
inductive Lv (T:i7):Prop
 |mk (fI:Addr) (x0 x1:Nat) (f:findIn T.K (.ref T.exc) "__init__"=some (some (.ref fI))) (i:isFn T.K (.ref fI)=true) (c0:y4 (T.nm x0)=true) (c1:y4 (T.nm x1)=true) (h:Er T fI ⟨[x0,x1],[],[]⟩ (LY T x0 x1))
structure TE (T:i7) (P:Pg):Prop extends TD T P where
 cls:∃x:XD,T.K.lookup T.exc=some (x.obj T.exc)
 Fi:keepIn T.K (.ref T.exc)=true
 Kz:findIn T.K (.ref T.exc) "__setattr__"=some (some (.builtin "object.__setattr__"))
 HN:findIn T.K (.ref T.exc) T.why=some none
 KD:findCls T.K (.type "Exception") (.type "type") "__init__"=some (.val (.builtin "Exception.__init__"))
 ui:IM T
 MR:(T.S1 ==("__debug__":Str))=false
 NS:Lv T
variable {T:i7} {P:Pg} {W:r9} {U:List Addr} {s:Shared} {Y:Hp} {A:Around} {n:Nat} {r:Ev} {env:Env} {own:List (Nat×Addr)} {m:Fr} {h h':Heap} {E:Value->Shared->Prop} {Q:Flow->Shared->Prop}
section
variable {eA tA:Addr} {wv:Value} {sn wn:Str}
theorem n7.JA {y:Str} {w:Value} {oe:Obj} {vs:Array Value} (x:n7 W env h y w) (he:h.get? eA=some oe) (hd:oe.data=.fields vs) (k:∀b o,b≠eA->h.get? b=some o->h'.get? b=some o):n7 W env h' y w:=by
 have ne:∀{b o},h.get? b=some o->(∀vs,o.data≠.fields vs)->b≠eA:=λe q z=>q vs ((OY Obj.data (ON ((z▸e:h.get? eA=_).symm.trans he))).trans hd)
 induction x with
 |loc f kk n e=>exact match n with|⟨o,es,ep,e1,d,r⟩=>.loc f kk ⟨o,es,ep,k _ _ (ne e1 λvs q=>nomatch d.symm.trans q) e1,d,r⟩ e
 |P0 c kk hc ho i=>exact match i with|⟨o,e,d⟩=>.P0 c kk hc ho ⟨o,k _ _ (ne e λvs q=>nomatch d.symm.trans q) e,d⟩
structure Flt (T:i7) (h h':Heap) (eA:Addr) (wv:Value) (t dx:Addr):Prop where
 at_:h'.get? eA=some {B0 T.exc t with dict:=some dx}
 dn:h.get? dx=none
 d:h'.DictOf (strKind T.prog T.w) dx [(T.why,wv)]
 k:∀b o,b≠eA->h.get? b=some o->h'.get? b=some o
theorem rT (te:TE T P) (c:Cx T W n A env own m U Y s) {q0 q1 q2 q3 q4 p0:Pos} (hs:n7 W env s.heap sn (.ref eA)) (hw:n7 W env s.heap wn wv) (hcs:y4 sn=true) (hcw:y4 wn=true) (hk:env.kindOf "Exception"=some .globalImplicit) (hq:(q1.endLine == q4.line)=true) (he:s.heap.get? eA=some (B0 T.exc tA))
 (k:∀h' tk t2,h'.get? eA=some (B0 T.exc t2)->(∀b o,b≠eA->s.heap.get? b=some o->h'.get? b=some o)->Q .next {s with heap:=h',toks:=tk}):wpAny (model T.prog T.w) A (exec (.Expr (.Call (.Attribute (.Name "Exception" q0) "__init__" q1) [.Name sn q2,.Name wn q3] [] q4) p0) env) Q E s:=by
 have X:=k7 te.toE5 c.rel
 have kd:=c.fr.kind
 obtain⟨xd,hK⟩:=te.cls
 refine wpAny_Expr_any ?_ (by unfold interactive;rw[kd];rfl) rfl
 rw[arm_eval_Call]
 obtain⟨mg,mb,n1,n2,_,g⟩:=te.ui
 refine OL (P1 rfl (aV c n1 n2 g rfl hk (OL (Pk (W8 rfl hq λpl=>kP X rfl (by decide+kernel) te.KD (by decide+kernel) ?_)))))
 refine callWith_of (P:=λh=>T.K.In h) rfl (M5 (K:=T.K) rfl) (evalArgs_plain (spliced_cons (D9 (h:=s.heap) (s:={s with toks:=s.toks+1}) kd hcs hs (spliced_cons (D9 (h:=s.heap) (s:={s with toks:=s.toks+1}) kd hcw hw (spliced_nil ⟨X,?_⟩))))))
 show wpAny _ _ (call (.builtin "Exception.__init__") (.ref eA::[wv])) _ E {s with toks:=s.toks+1}
 refine sq (rest:=[wv]) F.excBase_Exception (by rfl) (X _ _ hK) he rfl rfl (t0:=tA) rfl ?_ (OO rfl)
 exact k _ _ s.heap.objs.size (Heap.get?_update_self (Obj.mapFields (·.setIfInBounds 0 (.ref s.heap.objs.size))) (OT (h:=s.heap) {cls:=.type "tuple",data:=.seq [wv].toArray} he) rfl) λb o hb e=>(Heap.get?_update_other _ _ (Ne.symm hb)).trans (OT _ e)
theorem oS (te:TE T P) {q5 q6 q7 p1:Pos} (kd:env.scope.kind=.function) (hs:n7 W env s.heap sn (.ref eA)) (hw:n7 W env s.heap wn wv) (hcs:y4 sn=true) (hcw:y4 wn=true) (X:T.K.In s.heap) (he:s.heap.get? eA=some (B0 T.exc tA)) (k:∀h' tk dx,Flt T s.heap h' eA wv tA dx->Q .next {s with heap:=h',toks:=tk}):
 wpAny (model T.prog T.w) A (exec (.Assign [.Attribute (.Name sn q5) T.why q6] (.Name wn q7) p1) env) Q E s:=by
 obtain⟨xd,hK⟩:=te.cls
 rw[arm_exec_Assign]
 refine OL (Pk ?_)
 rw[show swapsWithSole [.Attribute (.Name sn q5) T.why q6] (.Name wn q7) p1.line env=pure false from rfl]
 refine OL (OM ?_)
 rw[Pq Bool.false_ne_true]
 refine OL (D9 (h:=s.heap) kd hcw hw ?_)
 rw[show swappedStores [.Attribute (.Name sn q5) T.why q6] (.Name wn q7) env=pure none from rfl]
 refine OL (OM ?_)
 show wpAny _ A (do assign (.Attribute (.Name sn q5) T.why q6) env wv;pure Flow.next) _ E _
 refine OL ?_
 rw[arm_assign_Attribute]
 exact OL (Pd (D9 (h:=s.heap) kd hcs hs (OL (Pk (OL (Pd (qG F.store_Exception (X _ _ hK) (looks_findIn X te.Kz) (looks_findIn X te.HN) he λh' tk' I' hk hsame=>wpAny_release (OM (k _ _ _ ⟨I',none_at_size _,hk,hsame⟩)))))))))
theorem rU (te:TE T P) (c:Cx T W n A env own m U Y s) {body:List PySem.Stmt} {x0 x1:Nat} (t:LY T x0 x1 env.kindOf body) (hs:n7 W env s.heap (T.nm x0) (.ref eA)) (hw:n7 W env s.heap (T.nm x1) wv) (hcs:y4 (T.nm x0)=true) (hcw:y4 (T.nm x1)=true) (he:s.heap.get? eA=some (B0 T.exc tA)) (hB:T.B.get? eA=none)
 (k:∀h' tk t dx,Flt T s.heap h' eA wv t dx->Q .next {s with heap:=h',toks:=tk}):wpAny (model T.prog T.w) A (execs body env) Q E s:=by
 induction t with
 |mk q0 q1 q2 q3 q4 p0 q5 q6 q7 p1 hq hk=>
  refine wpAny_execs_cons (rT te c hs hw hcs hcw hk hq he λh1 tk1 t2 he1 keep1=>wpAny_execs_cons (oS (s:={s with heap:=h1,toks:=tk1}) te c.fr.kind (hs.JA he rfl keep1) (hw.JA he rfl keep1) hcs hcw (λa o e=>keep1 a o (λz=>d0 hB (z▸te.vO a o e)) (k7 te.toE5 c.rel a o e)) he1 λh2 tk2 dx f=>wpAny_execs_nil (k h2 tk2 t2 dx ⟨f.at_,?_,f.d,λb o hb e=>f.k b o hb (keep1 b o hb e)⟩)))
  induction z:s.heap.get? dx with
  |none=>rfl
  |some o=>
   by_cases hz:dx=eA
   ·exact d0 (hz▸f.dn) he1
   ·exact d0 f.dn (keep1 dx o hz z)
end
variable {F:Fx T}
section
variable {z:Zt} {st:PySem.Stmt}
theorem Flt.exc {W W1:r9} {U:List Addr} {s s':Shared} {Y:Hp} {h':Heap} {tk eA t dx:Nat} {txt:Txt} {tok:Tok} (f:Flt T s'.heap h' eA (.str (i3 txt) tok) t dx) (ha:t6 txt=true) (v5:In W W1 s) (o:i4 T W U s Y U s') (c:d9 T W1 U Y s'.heap) (oe:eA∈W1.own) (e0:s.heap.get? eA=none) (xv:XV T W U s E txt Y):E (.ref eA) {s' with heap:=h',toks:=tk}:=by
 have dx0:=o.ext.since f.dn
 have off:Off (λb=>b=eA) s'.heap h':=λa ob e q=>f.k a ob q e
 have hdx:∃o,h'.get? dx=some o:=l9 f.d
 have there:∀a ob,s'.heap.get? a=some ob->∃ob',h'.get? a=some ob':=λa ob e=>Classical.byCases (λq:a=eA=>⟨_,q▸f.at_⟩) λq=>⟨ob,f.k a ob q e⟩
 have mv:∀{a},A7 T ⟨W.l6,dx::W1.own⟩ U a->A7 T W1 U a:=λz=>z.imp id λz=>z.imp (v5.l6 _) id
 have rel:d9 T ⟨W.l6,dx::W1.own⟩ U Y h':=c.move (S:=λb=>b=eA) (λa q=>q.elim (λq=>.inl (.inl q)) λq=>q.elim (λq=>.inl (.inr (.inl (v5.l6 a q)))) λq=>q.elim (λq=>(OW q).elim (λq=>.inr (q▸f.dn)) λq=>.inl (.inr (.inr (.inl q)))) λq=>.inl (.inr (.inr (.inr q)))) off (λa q=>.inr ((show a=eA from q)▸oe))
  ⟨λa ha=>(OW ha).elim (λq=>⟨λy=>c.N3 f.dn (q▸(mv y).bad),q▸hdx⟩) λq=>⟨λy=>(c.o5.own a q).nm (mv y),(c.o5.own a q).ex.elim (there a)⟩,λa ha=>⟨(c.o5.l6 a (v5.l6 a ha)).nr,(c.o5.l6 a (v5.l6 a ha)).nt,(c.o5.l6 a (v5.l6 a ha)).ex.elim (there a)⟩⟩
 have g:s8 s W ⟨W.l6,dx::W1.own⟩:=⟨rfl,λa q=>.tail _ (v5.own a q),λa q=>(OW q).elim (λq=>.inr (q▸dx0)) (v5.C1 a)⟩
 exact xv _ _ U (o.turn (s'':={s' with heap:=h',toks:=tk}) off (λa q=>(show a=eA from q)▸e0) ⟨rfl,rfl,rfl⟩ (rel.shrink g.v5)) ⟨_,dx,⟨W.l6,dx::W1.own⟩,_,_,_,tok,g,rel,.tail _ oe,e0,.head _,dx0,ha,f.at_,rfl,rfl,rfl,f.d,(i6 ..).trans (Pp rfl),.none⟩
inductive ig (T:i7) (E:Value->Shared->Prop):Value->Shared->Prop
 |mk (e t:Addr) (od:Option Addr) (s:Shared) (X:T.K.In s.heap) (he:s.heap.get? e=some {B0 T.exc t with dict:=od}) (hE:E (.ref e) s):ig T E (.ref e) s
theorem qT (te:TE T P) {W:r9} {U:List Addr} {s:Shared} {A:Around} {txt:Txt} {tok:Tok} (c:d9 T W U Y s.heap) (ar:Ar T W A (n+1) s.heap) (ha:t6 txt=true) (xv:XV T W U s E txt Y):wpAny (model T.prog T.w) A (call (.ref T.exc) [Value.str (i3 txt) tok]) (ig T E) E s:=by
 obtain⟨xd,hK⟩:=te.cls
 obtain⟨fI,x0,x1,hfi,EZ,hc0,hc1,hF⟩:=te.NS
 have X:=k7 te.toE5 c
 obtain⟨FD,body0,dv0,hh,_⟩:=id hF
 obtain⟨oc,od,osl,hlook⟩:=hh.look
 have hoc:oc=.type "function":=by
  have z:=beq_iff_eq.mp EZ
  unfold typeIn at z
  simp only[hlook]at z
  injection z
 refine xc F.excBase_Exception (by rfl) (by rfl) (by rfl) (by rfl) (X _ _ hK) (looks_findIn X hfi) (X _ _ hlook) hoc ?_ (OO rfl)
 have nw:∀d,d∈[s.heap.objs.size,s.heap.objs.size+1]->s.heap.get? d=none:=two_all (none_at_size _) (Heap.get?_none_of_le (Nat.le_succ _))
 have keep:∀b ob,s.heap.get? b=some ob->((s.heap.push {cls:=.type "tuple",data:=.seq [Value.str (i3 txt) tok].toArray}).push (B0 T.exc s.heap.objs.size)).get? b=some ob:=λb ob e=>OT _ (OT _ e)
 have gd:((s.heap.push {cls:=.type "tuple",data:=.seq [Value.str (i3 txt) tok].toArray}).push (B0 T.exc s.heap.objs.size)).get? s.heap.objs.size=some {cls:=.type "tuple",data:=.seq [Value.str (i3 txt) tok].toArray}:=by heap_get
 have gx:((s.heap.push {cls:=.type "tuple",data:=.seq [Value.str (i3 txt) tok].toArray}).push (B0 T.exc s.heap.objs.size)).get? (s.heap.objs.size+1)=some (B0 T.exc s.heap.objs.size):=by heap_get
 generalize (s.heap.push {cls:=.type "tuple",data:=.seq [Value.str (i3 txt) tok].toArray}).push (B0 T.exc s.heap.objs.size)=h2 at keep gd gx⊢
 have ar2:Ar T (W.add [s.heap.objs.size,s.heap.objs.size+1]) (A.under (.builtin "type.__call__" ⟨.ref T.exc::[Value.str (i3 txt) tok],[]⟩)) n h2:=(S6 ar).mv (W':=W.add [s.heap.objs.size,s.heap.objs.size+1]) (λJ q=>q) (Off.of_keeps (S:=λJ=>False) keep) (λJ J q=>q.elim)
 exact wpAny_call (Q6 te.toE5 hF (A:=A.under _) (own:=[]) (W0:=W) (Z4:=U) (s0:=s) (m:=[]) (s:={s with heap:=h2}) (c.adopt keep nw (two_all ⟨_,gd⟩ ⟨_,gx⟩)) (ar2.le (Nat.zero_le n)) (bZ ar.depth (Pw 2):A.depth+2≤900) (bZ ar.units (OO rfl):A.units+((Code.builtin "type.__call__" ⟨.ref T.exc::[Value.str (i3 txt) tok],[]⟩).cUnits+3)≤9000) (i4.keeps (t:=s.toks) c keep) (s8.add nw).v5 (λa ha=>(c.o5.own a ha).ex) (S6 ar).frames (λJ J J q=>nomatch q) (λJ J q=>nomatch q) (Pw _) (Pw _) (λx v e=>nomatch e)
  λenv W1 s' body E' en htr=>rU te en.fs.cx htr (en.held 0 x0 _ rfl rfl) (en.held 1 x1 _ rfl rfl) hc0 hc1 (en.keep _ _ gx) (by
   induction q:T.B.get? (s.heap.objs.size+1)with
   |none=>rfl
   |some o=>exact d0 (nw _ (.tail _ (.head _))) (c.base _ _ q)) λh' tk t dx f=>⟨rfl,.mk _ t (some dx) _ (λa o e=>f.k a o (λq=>d0 (nw _ (.tail _ (.head _))) (q▸X a o e)) (en.keep a o (keep a o (X a o e)))) f.at_ (f.exc ha en.fs.st.v5 en.fs.out en.fs.cx.rel (en.own _ (OQ _ (.tail _ (.head _)))) (nw _ (.tail _ (.head _))) xv)⟩)
theorem qS (te:TE T P) (hr:g7 T n r.ev) (rm:Rm F (n+1)) (f:Fs F z m Y) {e:X} (t:I8 T F.env.kindOf (.raise e) st) (h:(g8 P r m (.raise e) Y).c4 (KF F Q) (XF F E)):wpAny (model T.prog T.w) F.A (exec st F.env) Q E z.s:=
 t.yG λe' q r' p hk te'=>by
  obtain⟨xd,hK⟩:=te.cls
  rw[arm_exec_Raise]
  refine OL (Pk (Gs (C:=T.exc) (nm:=xd.nm) (q:=xd.q) (N:=xd.N) (bs:=xd.bs) (bm:=.ref xd.D::Fw) (hdct:=true) (sn:=xd.sn) (sub:=xd.sub) (ab:=xd.ab) (col:=xd.col) (dd:=xd.dd) (k0:=xd.k0) (k1:=xd.k1) (k2:=xd.k2) (k3:=xd.k3) (k5:=xd.k5) (newId:="Exception.__new__") (by rfl) f.cx.ar.handled (OL (wpAny_mono (Q:=ig T E) (E:=E) ?_ (λv w9 T9=>OL (Pk (OM (match v,w9,T9 with|_,_,.mk e t od s X he hE=>⟨e,t,od,rfl,X _ _ hK,he,hE⟩)))) λJ J x=>x))))
  rw[u9]
  have rm':N7 F.A n:=⟨OV (Pa (Nat.mul_le_mul_left 2 (Nat.le_succ n)) _) rm.r.depth,OV (Pa (Nat.mul_le_mul_left 20 (Nat.le_succ n)) _) rm.r.units⟩
  refine OL (match te.ui with|⟨mg,mb,n1,n2,g1,_⟩=>Name_function_global f.cx.fr.kind hk (loadGlobal_global (f.cx.fr.glob▸A2 f.cx.rel.base n1) g1 ?_) te.MR)
  have h1:(G7 r m [e] Y).c4 (NX T z.W z.U z.s λws c5=>T.K.In c5.heap∧wpAny (model T.prog T.w) F.A (call (.ref T.exc) ([]++ws)) (ig T E) E c5) (XV T z.W z.U z.s E):=R.d5.mpr (R.c4.mono (R.d5.mp h) (λv c9 h=>a9 h λtxt et (h:XF F E txt c9)=>by
   obtain rfl:=U7 et
   refine λws c5 c8 o q=>⟨k7 te.toE5 o.rel,?_⟩
   cases q with
   |cons _ w _ ws _ a q=>cases q with
    |nil=>exact VR.n8 (G:=λw=>wpAny (model T.prog T.w) F.A (call (.ref T.exc) [w]) (ig T E) E c5) (.mk (f7:=qg T z.W c8) _ _ a) λtok ha=>qT te o.rel ((f.mY rm.r).ar.ext o.ext) ha ((f.xv h).step o)) λJ J x=>f.xv x)
  refine callWith_of (P:=λh=>T.K.In h) (by rw[W6 (.cons _ e' _ _ te' .nil)];rfl) (keeps_K te.Fi) (J2 (.cons _ e' _ _ te' .nil) nofun (gM hr (.cons _ e' _ _ te' .nil) (f.mY rm') h1))
end
structure TG (T:i7) (P:Pg):Prop extends TE T P where
 NT:∃mg,T.B.Ns mainGlobals mg∧∀Pt,Pt∈T.tabs->T.B.BuiltinsAt mg Pt
theorem sH {pos pos':Pos} {c cv:Value} (l:List Value) (h:TriplesOk l) (e:codeAmong pos' (l++[rawInt pos.line,rawInt pos.col,c])=some cv):codeAmong pos' l=some cv∨cv=c:=by
 fun_induction TriplesOk l with
 |case1=>
  simp only[List.nil_append,codeAmong,rawInt]at e
  split at e
  ·exact .inr (ON e).symm
  ·cases e
 |case2 a t b u x rest ih=>
  simp only[List.cons_append,codeAmong]at e⊢
  split at e
  ·rename_i hc;rw[Pp hc];exact .inl e
  ·rename_i hc;rw[Pq hc];exact ih h e
 |case3 l h1 h2=>exact h.elim
section
variable {W':r9} {d7:List Addr} {sc:Scope}
theorem BV (c:d9 T W U Y s.heap) {Pt:Addr} (hP:Pt∈T.tabs) {tk:Nat} (keep:∀a o,a≠Pt->s.heap.get? a=some o->h'.get? a=some o) (hinv:ib T (k9 T W U) h' Pt):i4 T W U s Y U {s with heap:=h',toks:=tk}:=
 have off:Off (λa=>a=Pt) s.heap h':=λa o e q=>keep a o q e
 have bP:k9 T W U Pt:=.inr (.inr (.inr hP))
 have there:∀a o,s.heap.get? a=some o->∃o',h'.get? a=some o':=λa o e=>Classical.byCases (λq:a=Pt=>q▸match hinv with|⟨_,e,_,_⟩=>⟨_,e⟩) λq=>⟨o,keep a o q e⟩
 have ms:Ms U U (k9 T W U) (k9 T W U) (λa=>a=Pt) s.heap h':=⟨λJ J e=>e,off,λa J J q=>(show a=Pt from q)▸bP,λJ J J q=>q⟩
 {ext:=⟨λJ J e=>e,λJ q=>.inl q,off.mono λa o J q=>.inr (.inr ((show a=Pt from q)▸hP)),there,λa ha o e=>⟨o.slots,keep a o (λq=>(c.o5.l6 a ha).nt (q▸hP)) e⟩,rfl,rfl,rfl⟩
  rel:={
   len:=c.len
   nodup:=c.nodup
   objs:=λi o a h1 h2=>OR.ms ms (off.at λq=>c.tF (Q1 h2) ((show a=Pt from q)▸hP)) (c.objs i o a h1 h2)
   base:=λa o e=>keep a o (λq=>d0 (c.fresh Pt bP) (q▸e)) (c.base a o e)
   fresh:=c.fresh
   o5:=c.o5.keeps there
   tabs:=λP' hP'=>Classical.byCases (λq:P'=Pt=>q▸hinv) λq=>(c.tabs P' hP').move off q ms.sb ms.bb}}
noncomputable abbrev Hj (q:Str) (body':Ex) (sc:Scope) (cl:List (Str×Addr)) (pm:Value) (cA:Addr) (ctv:Value):Obj:={cls:=.type "function",data:=.func (kla_fn "<lambda>" q cp body' sc cl pm (.ref cA) ctv)}
theorem zy (tg:TG T P) (c:Cx T W n A env own m U Y s) {body':Ex} {Pt:Addr} {lp:Pos} (hl:T.lam env.kindOf=some Pt) (ls:qi T env.kindOf sc) {Q E:Value->Shared->Prop}
 (k:∀fA pm ctv cA h' tk,i4 T W U s Y U {s with heap:=h',toks:=tk}->h'.get? fA=some (Hj (env.qual++ "<lambda>") body' sc (v7 env.cells sc.names []) pm cA ctv)->h'.CodeRec (.ref cA) (env.qual++ "<lambda>")->Q (.ref fA) {s with heap:=h',toks:=tk}):
 wpAny (model T.prog T.w) A (eval (.Lambda cp body' sc lp) env) Q E s:=by
 obtain⟨cc,hPt,hq,hcode,hd⟩:=c.fr.code Pt hl
 obtain⟨ps,hP,ht,hcv⟩:=c.rel.tabs Pt hPt
 obtain⟨mg,n1,hbl⟩:=tg.NT
 have hg:=A2 c.rel.base n1
 have hC:=hd.keeps c.rel.base
 have hcl:=Z1 (E1 c.fr ls.free)
 obtain⟨bm,ob,b1,b2,b3,b4,b5,b6⟩:=hbl Pt hPt
 have hb:s.heap.BuiltinsAt mg Pt:=⟨bm,ob,b1,b2,b3,b4,c.rel.base _ _ b5,b6⟩
 have hgP:mainGlobals≠Pt:=λq=>match hg with|⟨o,es,ep,e,d,_⟩=>nomatch (OY Obj.data (ON (hP.symm.trans (q▸e)))).trans d
 refine kla_eval rfl ?_
 induction hcm:codeAmong lp ps.toList with
 |some cv=>
  obtain⟨cA,rfl,nb,hrec⟩:=hcv lp cv hcm
  refine kla_makeFunctionHit hcl c.fr.glob hg hcode hC hP ht hcm hb λctv h' tk hk hsz=>?_
  have keep:∀b o,s.heap.get? b=some o->(h'.push (Hj (env.qual++ "<lambda>") body' sc (v7 env.cells sc.names []) ((mg "__name__").getD .none) cA ctv)).get? b=some o:=λb o e=>OT _ (hk b o e)
  exact k _ _ _ cA _ tk (i4.keeps c.rel keep) (OU _ rfl) ((hq▸hrec).keeps keep)
 |none=>
  refine kla_makeFunction hcl c.fr.glob hg hcode hC hP ht hcm hgP hb λcA ctv h' tk hx hge hlt hrec htb=>?_
  have hrec':=hrec.push (kla_obj "<lambda>" (env.qual++ "<lambda>") cp body' sc (v7 env.cells sc.names []) ((mg "__name__").getD .none) cA ctv)
  have nbad:¬k9 T W U cA:=λq=>(c.rel.cM q).elim λo e=>absurd (Pu e) (Nat.not_lt.mpr hge)
  refine k _ _ _ cA _ tk (BV c.rel hPt (λa o q e=>OT _ (hx a o q e)) ⟨_,OT _ htb,(Array.toList_append ..)▸TriplesOk_snoc _ _ _ _ ht,λpos' cv q=>(sH _ ht ((Array.toList_append ..)▸q)).elim (λq=>match hcv pos' cv q with
   |⟨c1,e1,nb,c2,o,vs,t',e2,g,d,z⟩=>⟨c1,e1,nb,c2,o,vs,t',e2,OT _ (hx _ _ (λz=>nb (Value.ref.inj (e2.symm.trans e1)▸z▸.inr (.inr (.inr hPt)))) g),d,z⟩) λq=>⟨cA,q,nbad,q▸hq▸hrec'⟩⟩) (OU _ rfl) hrec'
theorem G2.lam (c:G2 T W U env own m h) {env':Env} (ls:qi T env.kindOf sc) (es:env'.scope=sc) (ec:env'.cells=v7 env.cells sc.names []) (eg:env'.globals=mainGlobals) (eb:env'.builtins=builtinsNs) (hL:env'.locals∈W'.l6) (ho:∀a,a∈W.own->a∈W'.own) (keep:∀a o,h.get? a=some o->h'.get? a=some o)
 (mm:Ms U d7 (k9 T W U) (k9 T W' d7) (λJ=>False) h h') {f:Str->Option Value} (hn:h'.Ns env'.locals f):G2 T W' d7 env' [] (C7 m) h':=
 have hk:env'.kindOf=λn=>sc.names.lookup n:=by funext x;show env'.scope.names.lookup x=_;rw[es]
 have ht:=E1 c ls.free
 have fr:∀{y k},sc.names.lookup y=some k->T6 k=true->k=.free:=λ{y k} e q=>by
  have hm:=mem_of_lookup e
  induction k<;>first|rfl|exact absurd rfl (ls.loc _ hm)|exact absurd rfl (ls.cell _ hm)|exact Bool.noConfusion q
 {kind:=es▸ls.kind
  glob:=eg
  blt:=eb
  Y0:=hL
  loc:=λx v e=>c.loc x v (X3 e).1
  ns:=⟨f,hn⟩
  var:=λx v e q=>b7 (hk▸q:f6 ((λn=>sc.names.lookup n) (T.nm x)) T6=true) λk ek q=>by
   have ek:sc.names.lookup (T.nm x)=some k:=ek
   obtain rfl:=fr ek q
   have l:=X3 e
   have hf:=mem_of_lookup ek
   have hc:=ls.free _ hf rfl
   obtain⟨w,hd,fv⟩:=c.var x v l.1 (by rw[hc];rfl)
   refine⟨w,?_,.pl v w (fv.quiet l.2).1 ((fv.quiet l.2).2.ms mm)⟩
   induction hd with
   |loc _ k=>exact S9 k hc nofun
   |P0 ca k hc' o i=>exact .P0 ca (.inr ((congrFun hk _).trans ek)) (ec▸(ax ht hf).trans hc') (ho _ o) (D5 i (keep _))
  has:=λy q=>by
   rw[hk]at q
   exact absurd (fr q rfl) nofun
  own:=λJ J q=>nomatch q
  code:=λPt q=>d0 ls.lam (hk▸q)}
theorem zz (tk:E5 T P) (hr:g7 T n r.ev) {body:X} {body':Ex} {q:Str} {fA cA:Addr} {pm ctv:Value} {Rz:Result->Shared->Prop} (c0:G2 T W U env own m h) (ho:∀a,a∈W.own->a∈W'.own) (keep0:∀a o,h.get? a=some o->s.heap.get? a=some o) (mm:Ms U U (k9 T W U) (k9 T W' U) (λJ=>False) h s.heap)
 (c:d9 T W' U Y s.heap) (ar:Ar T W' A 0 s.heap) (rm:∀env,N7 (A.deeper env) n) (EZ:s.heap.get? fA=some (Hj q body' sc (v7 env.cells sc.names []) pm cA ctv)) (hcd:s.heap.CodeRec (.ref cA) q) (ls:qi T env.kindOf sc) (t:Tr T (λn=>sc.names.lookup n) body body')
 (h:(r.ev (C7 m) body Y).c4 (KV T W' U s λv=>Rz (.ok (.ret v))) (XV T W' U s λe=>Rz (.error e))):codeAny (model T.prog T.w) A (.call (.ref fA) ⟨[],[]⟩) Rz s:=by
 refine kla_callFunE (Pf (OV (Nat.le_add_right A.depth (1+2 * n)) (by have:=(rm env).depth;rw[←Nat.add_assoc];exact this)) (by decide:900 < 1000)) EZ rfl ls.co ls.gen rfl hcd ?_
 rw[show bindArgs (kla_fn "<lambda>" q cp body' sc (v7 env.cells sc.names []) pm (.ref cA) ctv) ⟨[],[]⟩=pure []from rfl]
 refine OM (wpAny_newFunctionEnv ls.cell (λx hx=>nomatch hx) (λn6 hns hsb=>?_) ls.kind)
 have keep:∀b o,s.heap.get? b=some o->n6.get? b=some o:=λb o e=>hsb.extBut b o (Nat.ne_of_lt (Pu e)) (OT _ e)
 refine⟨match tk.tI with|⟨mc,hn,hm⟩=>⟨mc,(A2 c.base hn).keeps keep,hm⟩,?_⟩
 generalize henv:newEnv sc s.heap.objs.size mainGlobals (v7 env.cells sc.names []) (q++ ".<locals>.") (some fA) (.ref cA) none builtinsNs=C0
 show codeAny _ _ (.expr body' _) _ _
 have e1:C0.locals=s.heap.objs.size:=henv▸rfl
 have e2:C0.scope=sc:=henv▸rfl
 have e3:C0.cells=v7 env.cells sc.names []:=henv▸rfl
 have e4:C0.globals=mainGlobals:=henv▸rfl
 have e5:C0.builtins=builtinsNs:=henv▸rfl
 have e6:C0.frame=some C0.locals:=henv▸rfl
 rw[←e1]at hns
 clear henv
 have ek:C0.kindOf=λn=>sc.names.lookup n:=by funext x;show C0.scope.names.lookup x=_;rw[e2]
 have hke:C0.scope.kind=.function:=e2▸ls.kind
 have Lnew:s.heap.get? C0.locals=none:=e1▸none_at_size _
 have ft:I0 C0.locals n6:=H6 hns
 have ent:dw s.heap n6 C0.locals []:=⟨keep,Lnew,ft.elim λo q=>⟨o,q.1⟩,λJ q=>(nomatch q),λJ q=>(nomatch q),λq=>nomatch q⟩
 have hLB:T.B.get? C0.locals=none:=by
  induction z:T.B.get? C0.locals with
  |none=>rfl
  |some o=>exact d0 Lnew (c.base _ _ z)
 have m2:Ms U U (k9 T W' U) (k9 T (W'.enter C0.locals []) U) (λJ=>False) s.heap n6:=c.T3 (λJ q=>ent.bad q) (Off.of_keeps keep) λJ q=>q.elim
 have fr:G2 T (W'.enter C0.locals []) U C0 [] (C7 m) n6:=c0.lam ls e2 e3 e4 e5 (.head _) (λa q=>ho a q) (λa o e=>keep a o (keep0 a o e)) ⟨λJ J e=>e,λa o e q=>keep a o (keep0 a o e),λJ J J q=>q.elim,λa o e q=>mm.bb a o e (m2.bb a o (keep0 a o e) q)⟩ hns
 have r0:=rm C0
 have cx:Cx T (W'.enter C0.locals []) 0 (A.deeper C0) C0 [] (C7 m) U Y {s with heap:=n6,toks:=s.toks+([]:List (Str×Value)).length}:=⟨c.enter ent,fr,ar.enter (OV (Nat.le_add_right _ _) r0.depth) (OV (Nat.le_add_right _ _) r0.units) ent hke e6 hLB ft⟩
 have cm:∀y ca,C0.cells.lookup y=some ca->ca∈W'.own:=λy ca hc=>by
  obtain⟨hf,hc⟩:=gV (E1 c0 ls.free) (e3▸hc)
  exact match c0.has y (ls.free _ hf rfl)with|⟨ca',v,hc',o,i⟩=>(ON (hc'.symm.trans hc))▸ho _ o
 have f:Fs (T:=T) ⟨A.deeper C0,C0,W',U,s,[],[]⟩ ⟨W'.enter C0.locals [],[],U,{s with heap:=n6,toks:=s.toks+([]:List (Str×Value)).length}⟩ (C7 m) Y:=⟨cx,⟨In.enter ent,λJ J J q=>(nomatch q),λJ J q=>(nomatch q),Lnew,λJ J J J q=>(nomatch q),cm,λa ha=>(c.o5.own a ha).ex⟩,i4.keeps c keep,⟨λJ J J q=>(nomatch q),λJ J q=>(nomatch q)⟩⟩
 refine kla_codeExpr (hr (f.mY r0) (ek▸t) (R.c4.mono h (λv c7 k w s3 Bs o hv hf=>f.kv o hv hf k) λtxt c7 x=>f.xv λe s3 Bs W3 inn3 hL3 ft3 out3 exc3=>?_))
 exact match ar.frames with
  |⟨fs,hA1,hA2,hA3⟩=>js (F:=⟨A.deeper C0,C0,W',U,s,[],[]⟩) (A:=A.deeper C0) inn3 (OY (Option.map _) hA1:A.frames.map _=_) hA2 hA3 hL3 hke e6 ft3 hLB out3 exc3 x
end
section
variable {prog:Program} {w:World} {g:Array GenState} {d:Drawn} {t:Nat} {os:OsState} {a:Addr} {o:Obj} {vs:Array Value}
 {nm q:Str} {C N:Addr} {bs bm bmB:List Value} {hdct:Bool} {sn:List Str} {sub:List Value} {ab:Bool} {col:Option Bool} {dd:Option Addr} {k0 k1 k2 k3 k5:Option Value} {B newId:String} {K:Frag} {od:Option Obj} {OK:Str} {v:Value}
theorem xa {M:Model} {nameV:Value} {Q:Unit->Shared->Prop} (hcB:(Value.ref C::bm).contains (.type "BaseException")=true) (hC:h.get? C=some (excClassObj nm q C N bs bm hdct sn sub ab col dd k0 k1 k2 k3 k5 newId))
 (hx:h.get? a=some o) (hc:o.cls=.ref C) (hq:Q () ⟨h,g,d,t,os⟩):wpAny M A (checkBuiltinCall "BaseException.__getattribute__" ⟨[.ref a,nameV],[]⟩) Q E ⟨h,g,d,t,os⟩:=by
 have hk:builtinKind "BaseException.__getattribute__"=some .slot:=by decide+kernel
 have hsplit:splitId "BaseException.__getattribute__"=some ("BaseException","__getattribute__"):=by decide+kernel
 have ha:=F.args_bexc_ga (.ref a) nameV
 simp only[checkBuiltinCall,hk,hsplit]
 refine OL ?_
 ·unfold isInstance
  repeat (first|(with_reducible refine wpAny_loadPart_at hx ?_;rw[hc])|(with_reducible refine wpAny_isSubtype_exc hC ?_;rw[hcB])|wp_step)
  exact hq
theorem DG {expr:Bool} {Q:Value->Shared->Prop} (FB:ExcAttrFacts B) (X:K.In h) (hcB:(Value.ref C::bm).contains (.type "BaseException")=true) (hC:h.get? C=some (excClassObj nm q C N bs bm hdct sn sub ab col dd k0 k1 k2 k3 k5 newId))
 (I:InstAt h a o C od) (hg:findIn K (.ref C) "__getattribute__"=some (some (.builtin "BaseException.__getattribute__"))) (hga:findIn K (.ref C) "__getattr__"=some none) (hf:findObj K C od OK=some (.value v)) (hh:handedIn v=true) (hq:Q v ⟨h,g,d,t+1,os⟩):
 wpAny (model prog w) A (getAttr (.ref a) OK expr) Q E ⟨h,g,d,t,os⟩:=by
 have f3:=FB.ga.bind (.ref a)
 have hx0:(expr&&onTheHeap (Value.builtin "BaseException.__getattribute__"))=false:=by induction expr<;>rfl
 have hx2:(Value.builtin "BaseException.__getattribute__"== Value.builtin "object.__getattribute__")=false:=by decide+kernel
 have hx1:(onTheHeap (Value.ref C)&&Value.builtin "BaseException.__getattribute__"== Value.builtin "object.__getattribute__")=false:=by rw[hx2];rfl
 have hx:=I.at_
 have hc:=I.cls
 have h1:=looks_findIn (M:=model prog w) X hg
 have hl:=looks_find (M:=model prog w) X I hf
 unfold getAttr getAttrBy
 refine OL (wpAny_mkText (Pd (OL (I.type.at (OL (h1.at ?_))))))
 dsimp only
 rw[hx1]
 rw[Pq (by decide)]
 have h2:=looks_findIn (M:=model prog w) X hga
 repeat (any_goals (first|assumption|(with_reducible refine wpAny_loadPart_at hx ?_;rw[hc])|wp_step))
 refine h2.at ?_
 repeat (any_goals (first|assumption|(with_reducible refine wpAny_loadPart_at hx ?_;rw[hc])|wp_step))
 refine codeAny_call_builtin FB.ga.plain F.entry_bexc_ga (xa hcB hC hx hc ?_)
 unfold Builtin.«object.__getattribute__»
 repeat (any_goals (first|assumption|(with_reducible refine wpAny_loadPart_at hx ?_;rw[hc])|with_reducible refine OL (hl.at ?_)|wp_step))
 show wpAny _ _ (handedOut v) _ _ _
 rw[handedOut_of hh]
 exact OM hq
end
noncomputable def jD (k0 k1 k2 k3:Nat) (p0 p1 p2 p3 p4 p5 p6 p7 p8 p9 p10 p11 p12:Pos) (call fault why exc:Str):List PySem.Stmt:=
 [.Try [.Return (some (.Tuple [.Constant (.str "") k0 p0,.Call (.Name call p1) [] [] p2] k1 p3)) p4]
  [.ExceptHandler (some (.Name exc p5)) (some fault) [.Return (some (.Tuple [.Attribute (.Name fault p6) why p7,.Constant .none k2 p8] k3 p9)) p10] p11] [] [] p12]
inductive LX (T:i7) (x0:Nat) (fault:Str) (kd:Kd):List PySem.Stmt->Prop
 |mk (k0 k1 k2 k3:Nat) (p0 p1 p2 p3 p4 p5 p6 p7 p8 p9 p10 p11 p12:Pos) (hx:kd T.S1=some .globalImplicit) (hf:kd fault=some .local):LX T x0 fault kd (jD k0 k1 k2 k3 p0 p1 p2 p3 p4 p5 p6 p7 p8 p9 p10 p11 p12 (T.nm x0) fault T.why T.S1)
inductive Ep (T:i7):Prop
 |mk (x0:Nat) (fault:Str) (c0:y4 (T.nm x0)=true) (c1:y4 fault=true) (h:Er T T.A3 ⟨[x0],[],[]⟩ (LX T x0 fault))
structure TH (T:i7) (P:Pg):Prop extends TG T P where
 NR:findIn T.K (.ref T.exc) "__getattribute__"=some (some (.builtin "BaseException.__getattribute__"))
 NQ:findIn T.K (.ref T.exc) "__getattr__"=some none
 Fj:hasDictIn T.K T.exc=true
 EX:keepIn T.K (.ref T.A3)=true
 EY:∃mg,T.B.Ns mainGlobals mg∧mg T.Q0=some (.ref T.A3)
 NO:(T.Q0 ==("__debug__":Str))=false
 EZ:Ep T
theorem DB {M:Model} {A:Around} {E:Value->Shared->Prop} {s s0:Shared} {Q:Unit->Shared->Prop} {W:r9} {ea:Addr} {oe:Obj} {vs:Array Value} (he:s.heap.get? ea=some oe) (hd:oe.data=.fields vs) (ht:mH W s0 s.heap ea vs[1]?)
 (h:∀h',(∀b,h'.get? b=s.heap.get? b)->Q () {s with heap:=h'}):wpAny M A (setFlight (.ref ea) none) Q E s:=by
 unfold setFlight
 generalize hx:vs[1]? =x at ht
 induction ht with
 |none=>
  refine OL (wpAny_field he hd hx ?_)
  rw[Pq (by decide)]
  exact OM (h _ λJ=>rfl)
 |some tt oT ts _ _ _ hT hdT h3=>
  refine OL (wpAny_field he hd hx ?_)
  rw[Pp (show(Value.ref tt != Value.none)=true from rfl)]
  refine wpAny_setField hT hdT (Array.getElem?_eq_some_iff.mp h3).1 (h _ λb=>?_)
  by_cases q:tt=b
  ·subst q
   have d4:=Obj.data_mapFields hdT (·.setIfInBounds 3 ((none:Option Addr).elim Value.none λf=>rawInt f))
   have e:ts.setIfInBounds 3 ((none:Option Addr).elim Value.none λf=>rawInt f)=ts:=by
    have hlt:=(Array.getElem?_eq_some_iff.mp h3)
    rw[Array.setIfInBounds,dif_pos hlt.1]
    exact(OY (λx=>ts.set 3 x hlt.1) hlt.2.symm).trans (Array.set_getElem_self hlt.1)
   rw[Heap.get?_update_self (Obj.mapFields (·.setIfInBounds 3 ((none:Option Addr).elim Value.none λf=>rawInt f))) hT (Obj.isFreed_of_fields d4),hT,ba hdT,e]
   obtain⟨c,d,dt,sl⟩:=oT
   cases hdT
   rfl
  ·exact Heap.get?_update_other _ _ q
section
variable {fault:Str} {t:Txt} {e:Value}
theorem vU (th:TH T P) {k2 k3:Nat} {p5 p6 p7 p8 p9 p10 p11:Pos} {g0:Str->Option Value} (kd:F.env.scope.kind=.function) (hgl:F.env.globals=mainGlobals) (hfk:F.env.kindOf fault=some .local) (hxk:F.env.kindOf T.S1=some .globalImplicit) (hfl:y4 fault=true) (hLB:T.B.get? F.env.locals=none) (hLn:F.s0.heap.get? F.env.locals=none)
 (v5:In F.W0 W F.s0) (hL:F.env.locals∈W.l6) (rel5:d9 T W U Y s.heap) (o:i4 T F.W0 F.Z4 F.s0 Y U s) (x:sN T F.W0 F.s0 U Y s.heap t e) (hns:s.heap.Ns F.env.locals g0) (x':sN T W F.s0 U Y s.heap t e) (kx:KV T F.W0 F.Z4 F.s0 (λw=>Q (.ret w)) (.tup [.str t,.none]) Y):
 wpAny (model T.prog T.w) A (handleBy e F.env [.ExceptHandler (some (.Name T.S1 p5)) (some fault) [.Return (some (.Tuple [.Attribute (.Name fault p6) T.why p7,.Constant .none k2 p8] k3 p9)) p10] p11]) (λf s'=>match f with|.next=>wpAny (model T.prog T.w) A (execs [] F.env) Q E s'|f=>Q f s') E s:=by
 have tk:=th.toE5
 induction x' with
 |mk ea dx W' oe vs kws k g rel hea hen hdx hdn hasc he hcls hdict hdat hd hwhy htr=>
 obtain⟨xd,hK⟩:=th.cls
 have X4:=k7 tk o.rel
 have hC:=X4 _ _ hK
 obtain⟨mg,mb,n1,n2,g1,_⟩:=th.ui
 refine wpAny_handleBy_cons (codeAny_handlers_test (Name_function_global kd hxk (loadGlobal_global (hgl▸A2 o.rel.base n1) g1 ?_) th.MR)) (by intro q;cases q)
 obtain⟨h4,g4,d4,t4,os4⟩:=s
 refine wpAny_excMatches_sub_self hC he hcls rfl (codeAny_handlers_suite_as ?_)
 refine DB he hdat htr λh5 e5=>?_
 have hns5:h5.Ns F.env.locals g0:=T1 hns λob e=>⟨ob.slots,(e5 _).trans e⟩
 have hp:(F.env.scope.kind ==.class ||(F.env.scope.kind ==.module&&F.env.locals != F.env.globals))=false:=by rw[kd];rfl
 refine wpAny_storeName_local hfk hns5 (λh6 hns6 hs6=>?_) hp
 have nfr:∀b,b∈W'.own->b≠F.env.locals:=λb hb q=>(rel.o5.own b hb).nm (.inr (.inl (by rw[g.l6,q];exact hL)))
 have k6:∀b ob,b≠F.env.locals->h4.get? b=some ob->h6.get? b=some ob:=λb ob q e=>(hs6.2 b q).trans ((e5 b).trans e)
 have he6:=k6 _ _ (nfr _ hea) he
 have X6:T.K.In h6:=λa o e=>k6 a o (λq=>d0 hLB (q▸th.vO a o e)) (X4 a o e)
 obtain⟨odx,hodx,hl⟩:=cw hd T.why
 have hodx6:=k6 _ _ (nfr _ hdx) hodx
 refine wpAny_execs_cons (wpAny_Return_some (wpAny_Tuple_spliced (spliced_cons ?_)))
 rw[arm_eval_Attribute]
 refine OL (P1 rfl (D9 (T:=T) (W:=W) (h:=h6) kd hfl (.loc _ hfk hns6 (Pp rfl)) ?_))
 refine OL (Pk (OL (Pd (DG PySem.F.attr_Exception X6 (by rfl) (X6 _ _ hK) (o:=oe) (od:=some odx) ⟨he6,hcls,by unfold notCls;rw[hdat],by rw[hdict];exact hodx6⟩ th.NR th.NQ (findObj_own th.Fj th.HN rfl (by rw[hl,hwhy])) rfl ?_))))
 refine OL (wpAny_letTemporaryGo (OM (spliced_cons (wpAny_Constant_none (k:=k2) (pos:=p8) (spliced_nil ⟨OO rfl,?_⟩)))))
 refine wpAny_nameGoes hfk (hns6.keeps λb o e=>OT _ e) hp λh8 m8 hns8 hs8=>?_
 have k8:∀b ob,h4.get? b=some ob->b≠F.env.locals->h8.get? b=some ob:=λb ob e q=>(hs8.2 b q).trans (OT _ (k6 b ob q e))
 have L8:=H6 hns8
 have th8:∀b ob,h4.get? b=some ob->∃ob',h8.get? b=some ob':=λb ob e=>Classical.byCases (λq:b=F.env.locals=>q▸L8.elim λo q=>⟨o,q.1⟩) λq=>⟨ob,k8 b ob e q⟩
 have rel8:d9 T F.W0 U Y h8:=(rel5.turn ⟨λb ob e q=>k8 b ob e q,th8,λb q=>.inl ((show b=F.env.locals from q)▸hL),λb J q=>(show b=F.env.locals from q)▸L8⟩).shrink v5
 have tL:h6.objs.size≠F.env.locals:=λq=>(H6 hns6).elim λo z=>absurd (q▸Pu z.1) (Nat.lt_irrefl _)
 exact kx _ _ U (o.turn (s'':=⟨h8,g4,d4,_,os4⟩) (D:=λb=>b=F.env.locals) (λb ob e q=>k8 b ob e q) (λb q=>(show b=F.env.locals from q)▸hLn) ⟨rfl,rfl,rfl⟩ rel8) (.mk _ _ (.tup _ [.str (i3 t) k,.none] _ ⟨_,(hs8.2 _ tL).trans (OU _ rfl)⟩ (λz=>(o.rel.cM z).elim λob e1=>Classical.byCases (λq:h6.objs.size=F.env.locals=>tL q) λq=>d0 (none_at_size h6) (k6 _ _ q e1)) (.cons _ _ _ _ rfl (.G4 _ _ (.str t k hasc)) (.cons _ _ _ _ rfl (.G4 _ _ .none) .nil)))) (G1.not rfl)
theorem oO {r:R V} {K:V->Hp->Prop} {X:Txt->Hp->Prop} (h:(cB r).c4 K X):r.c4 (λv Y=>((b8 102 (freeze v) Y).bind λv Y=>(.ok (.tup [.str [],v]) Y:R V)).c4 K X) λt Y=>K (.tup [.str t,.none]) Y:=by induction r<;>exact h
theorem rK (th:TH T P) {z:Zt} {m:Fr} {x0:Nat} {fA:Addr} {r:R V} {outer:List Env} {body:List PySem.Stmt} (f:Fs F z m Y) (t:LX T x0 fault F.env.kindOf body) (hcall:n7 z.W F.env z.s.heap (T.nm x0) (.ref fA)) (hcl:y4 (T.nm x0)=true) (hfl:y4 fault=true) (hfo:FnAt fA z.s.heap)
 (hA:F.A.frames=some (F.env::outer)) (hB:F.s0.heap.FunFrames T.B outer) (hfr:∀e∈outer,∀L,e.frame=some L->L∈F.W0.l6) (hf:F.env.frame=some F.env.locals)
 (hlam:∀tk Rz,r.c4 (KV T z.W z.U {z.s with toks:=tk} λv=>Rz (.ok (.ret v))) (XV T z.W z.U {z.s with toks:=tk} λe=>Rz (.error e))->codeAny (model T.prog T.w) F.A (.call (.ref fA) ⟨[],[]⟩) Rz {z.s with toks:=tk})
 {X:Txt->Hp->Prop} (h:(cB r).c4 (KV T F.W0 F.Z4 F.s0 λw=>Q (.ret w)) X):wpAny (model T.prog T.w) F.A (execs body F.env) Q E z.s:=by
 induction t with
 |mk k0 k1 k2 k3 p0 p1 p2 p3 p4 p5 p6 p7 p8 p9 p10 p11 p12 hxk hfk=>
 have kd:=f.cx.fr.kind
 refine wpAny_execs_cons (wpAny_Try_except (wpAny_execs_cons (wpAny_Return_some (wpAny_Tuple_spliced (spliced_cons (wpAny_Constant_str (k:=k0) (pos:=p0) (spliced_cons ?_)))))))
 have o1:i4 T z.W z.U z.s Y z.U {z.s with toks:=z.s.toks+1}:=i4.toks f.cx.rel
 have f1:=f.step o1
 rw[u9]
 refine OL (D9 (h:=z.s.heap) (s:={z.s with toks:=z.s.toks+1}) kd hcl hcall ?_)
 refine callWith_of (P:=FnAt fA) rfl keeps_F (evalArgs_nil3 ⟨hfo,wpAny_call (hlam _ _ (R.c4.mono (oO h) (λv c7 kx w s3 Bs o hv hfr'=>?_) λt c7 kx e s3 Bs o exc=>?_))⟩)
 ·exact a9 kx λv' ef kq=>f1.give o hv hfr' λiQ z8 gv=>z8.freeze gv ef λbI B9 g hv'=>spliced_nil ⟨OO rfl,KV.newTuple B9.cx.rel (.cons _ _ _ _ rfl (.G4 _ _ (.str [] z.s.toks rfl)) (.cons _ _ _ _ g hv' .nil)) λw s4 OE o4 hv4 hf4=>B9.kv o4 hv4 hf4 kq⟩
 ·have out3:i4 T F.W0 F.Z4 F.s0 c7 Bs s3:=i4.under f.st.v5 f1.out o
  obtain⟨g0,hns0⟩:=f.cx.fr.ns
  have hns3:s3.heap.Ns F.env.locals g0:=T1 hns0 (o.ext.slots _ f.cx.fr.Y0)
  have hLB:=f.cx.rel.fresh _ (.inr (.inl f.cx.fr.Y0))
  show wpAny _ _ (noteFrame e F.env) _ _ _
  refine om (F:=F) (E:=λe s'=>wpAny (model T.prog T.w) F.A (handleBy e F.env _) _ E s') f.st.v5 hA hB hfr f.cx.fr.Y0 kd hf (H6 hns3) hLB out3 (exc.Ml (λJ=>f1.out.ext.since) s8.refl) λs4 no=>?_
  exact match no with|.mk W5 o4 x4 inn5 hL5 rel5 x5 hsl=>vU th kd f.cx.fr.glob hfk hxk hfl hLB f.st.O4 inn5 hL5 rel5 o4 x4 (T1 hns3 hsl) x5 kx
theorem rJ (th:TH T P) {r:Ev} {W:r9} {U:List Addr} {s:Shared} {env:Env} {own:List (Nat×Addr)} {m:Fr} {b:X} {e':Ex} {Q E:Value->Shared->Prop} (hr:g7 T n r.ev) (c:Cx T W (n+1) A env own m U Y s) (t:Tr T env.kindOf (.A3 b) e') (h:(s7 P r m (.A3 b) Y).c4 (KV T W U s Q) (XV T W U s E)):wpAny (model T.prog T.w) A (eval e' env) Q E s:=
 t.gB λbody' sc Pt lp q p hl hk ls tb=>by
  have tk:=th.toE5
  obtain⟨mg,n1,g1⟩:=th.EY
  obtain⟨x0,fault,hc0,hcf,hF⟩:=th.EZ
  rw[u9]
  refine OL (Name_function_global c.fr.kind hk (loadGlobal_global (c.fr.glob▸A2 c.rel.base n1) g1 ?_) th.NO)
  refine callWith_of (P:=λh=>T.K.In h) rfl (keeps_K th.EX) (evalArgs_plain (spliced_cons (zy th.toTG c.low hl ls λfA pm ctv cA h1 tk1 o ho hcd=>spliced_nil ⟨k7 tk o.rel,?_⟩)))
  have c1:=c.mv o
  have rd:=c.ar.depth
  have ru:=c.ar.units
  have h:(cB (r.ev (C7 m) b Y)).c4 (KV T W U {s with heap:=h1,toks:=tk1} Q) (XV T W U {s with heap:=h1,toks:=tk1} E):=c4.step o h λJ J q=>q.step o
  refine wpAny_call (Q6 tk hF (A:=A) (own:=[]) (W0:=W) (Z4:=U) (s0:={s with heap:=h1,toks:=tk1}) (m:=[]) c1.rel (c1.ar.le (Nat.zero_le _)) (bZ rd (by decide)) (bZ ru (by decide)) (i4.refl c1.rel) s8.refl.v5 (λa ha=>(c1.rel.o5.own a ha).ex) c1.ar.frames (λJ J J q=>nomatch q) (λJ J q=>nomatch q) (Pw _) (Pw _) (λx v e=>nomatch e) λenv' W1 s' body E' en htr=>?_)
  obtain⟨outer,ho1,ho2,ho3⟩:=c1.ar.frames
  have v5:=en.fs.st.v5
  exact rK th (F:=⟨A.deeper env',env',W,U,{s with heap:=h1,toks:=tk1},[],[]⟩) (z:=⟨W1,[],U,s'⟩) (r:=r.ev (C7 m) b Y) en.fs htr (en.held 0 x0 _ rfl rfl) hc0 hcf ⟨_,_,_,_,en.keep _ _ ho⟩ (OY (Option.map _) ho1:A.frames.map _=_) ho2 ho3 en.frame
   (λtk2 Rz hz=>zz th.toE5 hr (s:={s' with toks:=tk2}) c1.fr (λa ha=>v5.own a ha) en.keep ⟨λJ J e=>e,Off.of_keeps en.keep,λJ J J q=>q.elim,λa o e q=>v5.back e q⟩ en.fs.cx.rel (en.fs.cx.ar) (λe2=>⟨(M3 rd (Pw 2):A.depth+2+2 * n≤900),(M3 ru (by decide):A.units+6+20 * n≤9000)⟩) (en.keep _ _ ho) (hcd.keeps en.keep) ls tb hz) h
end
end Mine
end
section
open PySem PySem.W PyProof.Rows
namespace Mine
inductive Fc:Type
 |nil
 |cons (i j:Nat) (r:Fc)
noncomputable def Fc.any (F:Fc) (p:Nat->Nat->Bool):Bool:=Fc.rec false (λi j J h=>p i j || h) F
noncomputable def Fc.has (F:Fc) (f:Nat):Nat->Nat->Bool:=Nat.rec (λJ J=>false) (λJ ih i j=>F.any λa b=>Nat.beq a i&&(Nat.beq b j || ih b j)) f
noncomputable def IU (a:Nat) (L:List Nat):(List Nat->Bool)->Bool:=List.rec (λJ=>false) (λb L ih k=>bif Nat.beq a b then k L else ih λr=>k (b::r)) L
noncomputable def LH (F:Fc) (r:List Nat):Nat->List Nat->Bool:=List.rec (λJ L=>L.isEmpty) (λb J ih a L=>F.has 1 a b&&IU b L (ih b)) r
noncomputable def KC (F:Fc) (L l:List Nat):Bool:=List.rec L.isEmpty (λa r J=>IU a L (LH F r a)) l
noncomputable def cI (n:Nat) (L:List Nat) (t:KasT (Array Nat)):Nat->Fc->Bool:=KasT.rec (λp J F=>KC F L p.toList)
 (λi j J ih d F=>Nat.blt i n&&(Nat.blt j n&&(!Nat.beq i j&&(bif F.has (d * 8+1) i j then ih true d F else bif F.has (d * 8+1) j i then ih false d F else(ih true d.pred (.cons i j F)&&ih false d.pred (.cons j i F)))))) t
noncomputable def Lj (n:Nat):Bool:=Nat.rec true (λk h=>cI k (List.range k) (kas_sort k) k .nil&&h) n
theorem Nn:Lj 7=true:=by decide+kernel
theorem Ib {n:Nat}:∀{k:Nat},Lj k=true->n < k->cI n (List.range n) (kas_sort n) n .nil=true:=λ{k}=>by
 induction k with
 |zero=>exact λJ q=>(nomatch q)
 |succ k ih=>exact λh q=>a7 h λh1 h2=>(Nat.lt_or_eq_of_le (Nat.le_of_lt_succ q)).elim (ih h2) λe=>e▸h1
noncomputable def gX (n:Nat) (L:List Nat) (p:List Bool):KasT (Array Nat)->Nat->Fc->Bool:=List.rec (cI n L) (λb J h t=>KasT.casesOn t (λp d F=>cI n L (.ret p) d F) λi j k d F=>Nat.blt i n&&(Nat.blt j n&&(!Nat.beq i j&&(bif F.has (d * 8+1) i j then cI n L (k true) d F else bif F.has (d * 8+1) j i then cI n L (k false) d F else bif b then h (k true) d.pred (.cons i j F)else h (k false) d.pred (.cons j i F))))) p
theorem Io {a b c x y z w u v:Bool} {OI V:List Bool->Bool} {l:Nat} (hU:(∀p:List Bool,p.length=l->OI p=true)->u=true) (hV:(∀p:List Bool,p.length=l->V p=true)->v=true)
 (g:∀p:List Bool,p.length=l->∀q:Bool,(a&&(b&&(c&&(bif x then z else bif y then w else bif q then OI p else V p))))=true):(a&&(b&&(c&&(bif x then z else bif y then w else(u&&v)))))=true:=by
 have g0:=g (List.replicate l true) List.length_replicate true
 induction a with
 |false=>exact g0
 |true=>induction b with
  |false=>exact g0
  |true=>induction c with
   |false=>exact g0
   |true=>induction x with
    |true=>exact g0
    |false=>induction y with
     |true=>exact g0
     |false=>exact(show(u&&v)=true from Bool.and_eq_true_iff.mpr ⟨hU λp hp=>g p hp true,hV λp hp=>g p hp false⟩)
theorem AJ {n l:Nat} {L:List Nat}:∀{t:KasT (Array Nat)} {d:Nat} {F:Fc},(∀p:List Bool,p.length=l->gX n L p t d F=true)->cI n L t d F=true:=by
 induction l with
 |zero=>exact λ{t d F} h=>h [] rfl
 |succ l ih=>
  intro t d F h
  induction t with
  |ret p=>exact h (List.replicate (l+1) true) List.length_replicate
  |ask i j k _=>exact Io (OI:=λp=>gX n L p (k true) d.pred (.cons i j F)) (V:=λp=>gX n L p (k false) d.pred (.cons j i F)) ih ih λp hp q=>h (q::p) (OY Nat.succ hp)
noncomputable def L7:List Nat:=[0,1,2,3,4,5,6]
theorem Nb:gX 7 L7 [false,false,false] (kas_sort 7) 7 .nil=true:=by decide+kernel
theorem Na:gX 7 L7 [false,false,true] (kas_sort 7) 7 .nil=true:=by decide+kernel
theorem MZ:gX 7 L7 [false,true,false] (kas_sort 7) 7 .nil=true:=by decide+kernel
theorem MY:gX 7 L7 [false,true,true] (kas_sort 7) 7 .nil=true:=by decide+kernel
theorem MX:gX 7 L7 [true,false,false] (kas_sort 7) 7 .nil=true:=by decide+kernel
theorem MW:gX 7 L7 [true,false,true] (kas_sort 7) 7 .nil=true:=by decide+kernel
theorem MV:gX 7 L7 [true,true,false] (kas_sort 7) 7 .nil=true:=by decide+kernel
theorem MU:gX 7 L7 [true,true,true] (kas_sort 7) 7 .nil=true:=by decide+kernel
theorem Ia {n:Nat} (h:n < 8):cI n (List.range n) (kas_sort n) n .nil=true:=(Nat.lt_or_eq_of_le (Nat.le_of_lt_succ h)).elim (Ib Nn) λe=>e▸AJ (L:=L7) (l:=3) λp h=>by
 obtain⟨a,r,rfl,h1⟩:=jr h
 obtain⟨b,r,rfl,h2⟩:=jr h1
 obtain⟨c,r,rfl,h3⟩:=jr h2
 obtain rfl:=List.eq_nil_of_length_eq_zero h3
 induction a with
 |false=>induction b with
  |false=>induction c with
   |false=>exact Nb
   |true=>exact Na
  |true=>induction c with
   |false=>exact MZ
   |true=>exact MY
 |true=>induction b with
  |false=>induction c with
   |false=>exact MX
   |true=>exact MW
  |true=>induction c with
   |false=>exact MV
   |true=>exact MU
structure Ord (n:Nat) (lt:Nat->Nat->Bool):Prop where
 tr:∀{i j k},lt i j=true->lt j k=true->lt i k=true
 as:∀{i j},lt i j=true->lt j i=false
 to:∀{i j},i < n->j < n->i≠j->lt i j=false->lt j i=true
section
variable {n:Nat} {lt:Nat->Nat->Bool} {F:Fc}
def Fc.Ok (lt:Nat->Nat->Bool) (F:Fc):Prop:=Fc.rec True (λi j J h=>lt i j=true∧h) F
theorem IC {p:Nat->Nat->Bool} {C:Prop} (f:F.Ok lt) (h:F.any p=true) (k:∀a b,lt a b=true->p a b=true->C):C:=by
 induction F with
 |nil=>exact Bool.noConfusion h
 |cons i j r ih=>exact(Bool.or_eq_true_iff.mp (show(p i j || r.any p)=true from h)).elim (k i j f.1) (ih f.2)
theorem lq (o:Ord n lt) (f:F.Ok lt) {d:Nat}:∀{i j:Nat},F.has d i j=true->lt i j=true:=by
 induction d with
 |zero=>exact λh=>Bool.noConfusion h
 |succ d ih=>exact λ{i j} h=>IC f (show(F.any λa b=>Nat.beq a i&&(Nat.beq b j || F.has d b j))=true from h) λa b g h=>a7 h λh1 h2=>(Bool.or_eq_true_iff.mp h2).elim (λe=>Pc h1▸Pc e▸g) λe=>Pc h1▸o.tr g (ih e)
theorem EB {a:Nat} {L:List Nat}:∀{k:List Nat->Bool},IU a L k=true->∃r,k r=true∧L.Perm (a::r):=by
 induction L with
 |nil=>exact λh=>Bool.noConfusion h
 |cons b L ih=>
  intro k h
  have h:(bif Nat.beq a b then k L else IU a L λr=>k (b::r))=true:=h
  cases e:Nat.beq a b with
  |true=>rw[e]at h;exact⟨L,h,Pc e▸.refl _⟩
  |false=>rw[e]at h;exact(ih h).elim λr p=>⟨b::r,p.1,(p.2.cons b).trans (.swap a b r)⟩
theorem Ez (o:Ord n lt) (f:F.Ok lt) {r:List Nat}:∀{a:Nat} {L:List Nat},LH F r a L=true->r.Perm L∧(a::r).Pairwise λi j=>lt i j=true:=by
 induction r with
 |nil=>exact λ{a L} h=>⟨List.isEmpty_iff.mp (show L.isEmpty=true from h)▸.nil,List.pairwise_singleton _ a⟩
 |cons b r ih=>exact λ{a L} h=>a7 (show(F.has 1 a b&&IU b L (LH F r b))=true from h) λh1 h2=>(EB h2).elim λR p=>
  have k:=ih p.1
  ⟨(k.1.cons b).trans p.2.symm,.cons (λc q=>(OW q).elim (λe=>e▸lq o f h1) λq=>o.tr (lq o f h1) ((List.pairwise_cons.mp k.2).1 c q)) k.2⟩
theorem Ao (o:Ord n lt) (f:F.Ok lt) {L l:List Nat} (h:KC F L l=true):l.Perm L∧l.Pairwise λi j=>lt i j=true:=by
 induction l with
 |nil=>exact⟨List.isEmpty_iff.mp (show L.isEmpty=true from h)▸.nil,.nil⟩
 |cons a r=>exact(EB (show IU a L (LH F r a)=true from h)).elim λR p=>⟨((Ez o f p.1).1.cons a).trans p.2.symm,(Ez o f p.1).2⟩
theorem BQ (o:Ord n lt) {I:Shared->Prop} {cmp:Nat->Nat->(Bool->Shared->Prop)->Shared->Prop} {G:Array Nat->Shared->Prop} (hc:∀i j C s,I s->i < n->j < n->i≠j->(∀s',I s'->C (lt i j) s')->cmp i j C s)
 (hG:∀(p:Array Nat) s,p.toList.Perm (List.range n)->(p.toList.Pairwise λi j=>lt i j=true)->I s->G p s) {t:KasT (Array Nat)}:∀{d:Nat} {F:Fc} {s:Shared},cI n (List.range n) t d F=true->F.Ok lt->I s->t.kasWp cmp G s:=by
 induction t with
 |ret p=>exact λ{d F s} h f i=>hG p s (Ao o f h).1 (Ao o f h).2 i
 |ask i j k ih=>
  exact λ{d F s} h f g=>a7 (show(Nat.blt i n&&(Nat.blt j n&&(!Nat.beq i j&&(bif F.has (d * 8+1) i j then cI n (List.range n) (k true) d F else bif F.has (d * 8+1) j i then cI n (List.range n) (k false) d F else(cI n (List.range n) (k true) d.pred (.cons i j F)&&cI n (List.range n) (k false) d.pred (.cons j i F))))))=true from h) λh1 h=>a7 h λh2 h=>a7 h λh3 h=>
   have l1:i < n:=OO h1
   have l2:j < n:=OO h2
   have ne:i≠j:=λe=>Bool.noConfusion ((not_true h3).symm.trans (e.subst (motive:=λj=>Nat.beq i j=true) (Nat.beq_refl i)))
   hc i j _ s g l1 l2 ne λs' g'=>by
    cases e1:F.has (d * 8+1) i j with
    |true=>rw[e1]at h;rw[lq o f e1];exact ih true h f g'
    |false=>
     rw[e1]at h
     cases e2:F.has (d * 8+1) j i with
     |true=>rw[e2]at h;rw[o.as (lq o f e2)];exact ih false h f g'
     |false=>
      rw[e2]at h
      exact a7 h λq1 q2=>by
       cases e:lt i j with
       |true=>exact ih true q1 ⟨e,f⟩ g'
       |false=>exact ih false q2 ⟨o.to l1 l2 ne e,f⟩ g'
theorem ki (o:Ord n lt) (hn:n < 8) {I:Shared->Prop} {cmp:Nat->Nat->(Bool->Shared->Prop)->Shared->Prop} {G:Array Nat->Shared->Prop} {s:Shared} (hc:∀i j C s,I s->i < n->j < n->i≠j->(∀s',I s'->C (lt i j) s')->cmp i j C s)
 (hG:∀(p:Array Nat) s,p.toList.Perm (List.range n)->(p.toList.Pairwise λi j=>lt i j=true)->I s->G p s) (i:I s):(kas_sort n).kasWp cmp G s:=BQ o hc hG (Ia hn) trivial i
end
end Mine
end
section
open PySem PySem.W PyProof.Rows PySem.Calls PySem.Spec
namespace Mine
noncomputable def O6 (kws:List (Str×Value)) (i:Nat):Txt:=(kws[i]?).elim [] λp=>Q8 p.1
noncomputable def CX (kws:List (Str×Value)) (i j:Nat):Bool:=zq (O6 kws i) (O6 kws j)
theorem O5 {kws:List (Str×Value)} {i:Nat} {k:Str} {x:Value} (e:kws[i]? =some (k,x)):O6 kws i=Q8 k:=by unfold O6;rw[e];rfl
theorem Ay {a b:Str} (e:Q8 a=Q8 b):a=b:=Str.ext' (Array.toList_inj.mp e)
theorem CW {kws:List (Str×Value)} (nd:(kws.map (·.1)).Nodup):Ord kws.length (CX kws) where
 tr h1 h2:=M4.mpr (List.lt_trans (M4.mp h1) (M4.mp h2))
 as {i j} h:=by
  cases e:CX kws j i with
  |false=>rfl
  |true=>exact absurd (M4.mp e) (List.lt_asymm (M4.mp h))
 to {i j} hi hj ne h:=by
  cases e:CX kws j i with
  |true=>rfl
  |false=>
   have q:O6 kws i=O6 kws j:=List.le_antisymm (qo e) (qo h)
   rw[O5 (Pb hi),O5 (Pb hj)]at q
   exact absurd ((List.getElem?_inj (by rw[OZ];exact hi) nd).mp (by rw[Po,Po,Pb hi,Pb hj];exact OY some (Ay q))) ne
inductive TupAt (kws:List (Str×Value)) (ok:Addr->Prop) (h:Heap) (vs:List Value) (i:Nat):Prop
 |mk (a:Addr) (k:Str) (t:Tok) (x:Value) (e1:vs[i]? =some (.ref a)) (e2:kws[i]? =some (k,x)) (g:ok a) (ha:h.get? a=some {cls:=.type "tuple",data:=.seq #[.str k t,x]})
variable {A:Around} {E:Value->Shared->Prop} {s:Shared} {h:Heap}
section
variable {prog:Program} {w:World} {a:Addr} {vs:List Value} {kws:List (Str×Value)} {h':Heap} {ok ok':Addr->Prop}
theorem TupAt.keep {i:Nat} (x:TupAt kws ok h vs i) (g:∀a,ok a->ok' a) (k:∀b o,ok b->h.get? b=some o->h'.get? b=some o):TupAt kws ok' h' vs i:=
 match x with|⟨a,n,t,v,e1,e2,g1,ha⟩=>⟨a,n,t,v,e1,e2,g _ g1,k _ _ g1 ha⟩
inductive IL (h:Heap) (vs:List Value):Prop
 |mk (fs:List Value) (k:KatTups h vs fs) (l:fs.length=vs.length) (s:∀v∈fs,∃n t,v=.str n t)
theorem HJ {vs:List Value}:∀{kws:List (Str×Value)},vs.length=kws.length->(∀i,i < kws.length->TupAt kws ok h vs i)->IL h vs:=by
 induction vs with
 |nil=>exact λJ J=>⟨[],trivial,rfl,λJ q=>(nomatch q)⟩
 |cons v vs ih=>
  intro kws l x
  induction kws with
  |nil=>cases l
  |cons p kws=>
   induction x 0 (Nat.zero_lt_succ _)with
   |mk a k t y e1 e2 g ha=>
    cases e1
    induction ih (kws:=kws) (Nat.succ.inj l) λi hi=>(match x (i+1) (Nat.succ_lt_succ hi)with|⟨a,n,t,v,e1,e2,g1,ha⟩=>⟨a,n,t,v,e1,e2,g1,ha⟩)with
    |mk fs h1 h2 h3=>exact⟨.str k t::fs,.cons ha rfl rfl rfl h1,OY Nat.succ h2,λu hu=>(OW hu).elim (λq=>⟨_,_,q⟩) (h3 u)⟩
theorem BP (nd:(kws.map (·.1)).Nodup) {i j:Nat} {C:Bool->Shared->Prop} (x:TupAt kws ok s.heap vs i) (y:TupAt kws ok s.heap vs j) (ne:i≠j) (hC:C (CX kws i j) s):kas_ask prog w A (tuples' true) vs i j C s:=by
 induction x with
 |mk a1 k1 t1 x1 e1 f1 _ g1=>
  induction y with
  |mk a2 k2 t2 x2 e2 f2 _ g2=>
   have dk:k1≠k2:=λq=>ne ((List.getElem?_inj (by rw[OZ];exact(List.getElem?_eq_some_iff.mp f1).1) nd).mp (by rw[Po,Po,f1,f2];exact OY some q))
   unfold CX at hC
   rw[O5 f1,O5 f2]at hC
   unfold kas_ask
   rw[List.getD_eq_getElem?_getD,List.getD_eq_getElem?_getD,e1,e2]
   refine kat_lt g1 rfl g2 rfl (kat_cons (eqBool_str ?_))
   rw[beq_eq_false_iff_ne.mpr dk]
   refine kat_no (oneLt_str ?_)
   rw[show decide (k1.cps.toList < k2.cps.toList)=zq (Q8 k1) (Q8 k2)from Bool.eq_iff_iff.mpr (decide_eq_true_iff.trans M4.symm)]
   exact hC
theorem gh {n:Nat} {P:PySem.Fin->Shared->Prop} (ho:s.heap.get? a=some (seqObj "list" vs.toArray n)) (l:vs.length=kws.length) (x:∀i,i < kws.length->TupAt kws (·≠a) s.heap vs i) (nd:(kws.map (·.1)).Nodup) (h8:kws.length < 8)
 (h:∀h' (p:List Nat) c,p.Perm (List.range kws.length)->(p.Pairwise λi j=>CX kws i j=true)->(∀b o,b≠a->s.heap.get? b=some o->h'.get? b=some o)->h'.get? a=some (seqObj "list" (p.map λi=>vs.getD i Value.none).toArray c)->P (.done (.ret .none)) {s with heap:=h'}):
 wpAny (model prog w) A (Builtin.«list.sort» ⟨[.ref a],[]⟩) P E s:=by
 have hz:vs.length≤sizeLine:=bp (OV (Nat.le_of_lt (l▸h8)) (by decide))
 have ha:a < s.heap.objs.size:=Pu ho
 rw[list_sort_plain]
 refine OL (listItems_at ho rfl ?_)
 refine OL (listUpdate_at ho rfl ?_ hz (Nat.zero_le _))
 induction show∃e1,(s.heap.update a (Obj.mapSeq λJ=>#[])).get? a=some (seqObj "list" #[] e1)from⟨_,get?_update_seq ho (λJ=>#[])⟩with
 |intro e1 ho1=>
 refine OL (seqEpoch_at ho1 rfl ?_)
 refine OL (wpAny_newTuple ?_ hz)
 refine OL (wpAny_newList ?_ (Nat.zero_le _))
 refine Pd ?_
 have ho6:(((s.heap.update a (Obj.mapSeq λJ=>#[])).push (seqObj "tuple" vs.toArray 0)).push (seqObj "list" #[] 0)).get? a=some (seqObj "list" #[] e1):=OT _ (OT _ ho1)
 have keep:∀b o,b≠a->s.heap.get? b=some o->(((s.heap.update a (Obj.mapSeq λJ=>#[])).push (seqObj "tuple" vs.toArray 0)).push (seqObj "list" #[] 0)).get? b=some o:=λb o q e=>OT _ (OT _ ((Heap.get?_update_ne _ _ _ _ q).trans e))
 show wpAny (model prog w) A _ P E {s with heap:=((s.heap.update a (Obj.mapSeq λJ=>#[])).push (seqObj "tuple" vs.toArray 0)).push (seqObj "list" #[] 0)}
 generalize ((s.heap.update a (Obj.mapSeq λJ=>#[])).push (seqObj "tuple" vs.toArray 0)).push (seqObj "list" #[] 0)=h6 at ho6 keep
 dsimp only
 by_cases h2:vs.toArray.size < 2
 ·rw[Pp h2,Pp h2]
  refine OL (OM ?_)
  rw[StateT.run_pure]
  refine OL (OM ?_)
  dsimp only
  refine OL (seqEpoch_at ho6 rfl ?_)
  refine OL (listUpdate_at ho6 rfl ?_ (hsz2:=by rw[Array.size_map];show(pairsOf vs).size≤_;rw[pairsOf_size];exact Nat.le_succ_of_le hz))
  rw[show(e1 != e1)=false from bne_self_eq_false _]
  refine OM (h _ (List.range kws.length) _ (.refl _) ?_ (λb o q e=>(Heap.get?_update_ne _ _ _ _ q).trans (keep b o q e)) ((get?_update_seq ho6 _).trans (OY (λz=>some (seqObj "list" z _)) ?_)))
  ·rw[←l]
   exact match vs,h2 with
   | [],_=>.nil
   | [v],_=>List.pairwise_singleton _ _
   |_::_::_,q=>absurd (Nat.lt_of_succ_lt_succ (Nat.lt_of_succ_lt_succ q)) (Nat.not_lt_zero _)
  ·exact kat_snds (ks:=vs) (vs:=vs) (p:=(List.range kws.length).toArray) rfl (by rw[←l];exact((OY (λn=>(List.range n).toArray.map (kas_item (pairsOf vs))) (pairsOf_size vs)).symm.trans (kas_range _)).symm)
 ·rw[Pq h2,Pq h2]
  have x6:∀i,i < kws.length->TupAt kws (·≠a) h6 vs i:=λi hi=>(x i hi).keep (λJ=>id) keep
  induction HJ l x6 with
  |mk fs t1 t2 t3=>
  have h2':2≤vs.length:=Pr h2
  refine OL (kat_kind (s:={s with heap:=h6}) (T:=.type "str") t1 (t2▸Nat.lt_of_lt_of_le (by decide) h2') (λv hv=>match t3 v hv with|⟨k,t,e⟩=>e▸Looks.of_pure rfl) (by decide) ?_)
  rw[show(Value.type "str" != Value.type "tuple")=true from by decide]
  have sorted:(kas_sort vs.length).kasWp (kas_ask prog w A (tuples' true) vs) (λp s'=>p.toList.Perm (List.range kws.length)∧(p.toList.Pairwise λi j=>CX kws i j=true)∧s'={s with heap:=h6}) {s with heap:=h6}:=
   by rw[l];exact ki (CW nd) h8 (I:=λs'=>s'={s with heap:=h6}) (λi j C s' e hi hj ne hC=>e▸BP (s:={s with heap:=h6}) nd (x6 i hi) (x6 j hj) ne (hC _ rfl)) (λp s' h1 h2 e=>⟨h1,h2,e⟩) rfl
  refine OL (wpAny_mono (kat_run (Q:=λst' s'=>∃p:Array Nat,arrOf st'=p.map (kas_item (vs.toArray.zip vs.toArray))∧failedOf st'=none∧p.size=vs.length∧p.toList.Perm (List.range kws.length)∧(p.toList.Pairwise λi j=>CX kws i j=true)∧s'={s with heap:=h6}) rfl h2' (Nat.lt_trans (l▸h8) (by decide)) (λp' st' s' a1 a2 a3 a4=>⟨p',a2,a3,a1,a4⟩) sorted) (λr s' hq=>?_) λJ J e=>e)
  exact match r,s',hq with
  |(_,st'),s',⟨p,har,hf,hs,hp,hi,e⟩=>by
   subst e
   dsimp only
   have hout:=kat_snds rfl har
   refine OL (seqEpoch_at ho6 rfl ?_)
   refine OL (listUpdate_at ho6 rfl ?_ (Nat.zero_le _) (by rw[hout,Ph,OZ,Array.length_toList,hs];exact Nat.le_succ_of_le hz))
   rw[hf,show(e1 != e1)=false from bne_self_eq_false _]
   exact OM (h _ p.toList _ hp hi (λb o q e=>(Heap.get?_update_ne _ _ _ _ q).trans (keep b o q e)) ((get?_update_seq ho6 _).trans (OY (λz=>some (seqObj "list" z _)) hout)))
end
theorem sV (k:Str):i3 (Q8 k)=k:=(List.cons.inj (nq [k])).1
theorem qn {kws:List (Str×Value)} {k:Str} {x:Value}:∀{i:Nat},(kws.map (·.1)).Nodup->kws[i]? =some (k,x)->valueAt kws k=some x:=by
 induction kws with
 |nil=>exact λJ e=>nomatch e
 |cons p r ih=>
  intro i nd e
  rw[List.map_cons,List.nodup_cons]at nd
  rw[show p=(p.1,p.2)from rfl,i6]
  induction i with
  |zero=>cases e;exact Pp rfl
  |succ i=>exact(Pq λz=>nd.1 (List.mem_map.mpr ⟨_,Pm e,z.symm⟩)).trans (ih nd.2 e)
variable {T:i7}
section
theorem nG {r d:Addr} {kws:List (Str×Value)} {Q:Value->Shared->Prop} (hh:A.handled=none) (hv:s.heap.IsItemsView r d) (hd:s.heap.DictOf (PySem.strKind T.prog T.w) d kws) (h8:kws.length < 8)
 (h:∀h' tk D (vs:List Value) (p:List Nat),(∀b o,s.heap.get? b=some o->h'.get? b=some o)->s.heap.get? D=none->R6 h' D (p.map λi=>vs.getD i Value.none)->p.Perm (List.range kws.length)->(p.Pairwise λi j=>CX kws i j=true)->
  (∀i,i < kws.length->TupAt kws (λa=>s.heap.get? a=none∧a≠D) h' vs i)->Q (.ref D) {s with heap:=h',toks:=tk}):
 wpAny (model T.prog T.w) A (call (.builtin "sorted") [.ref r]) Q E s:=by
 obtain⟨ep,hat⟩:=hd.dictAt
 have hz:kws.length≤sizeLine:=bp (OV (Nat.le_of_lt h8) (by decide))
 refine call_function_entry kind_sorted plain_sorted entry_sorted (args_sorted1 _) ?_
 unfold Builtin.«sorted»
 refine OL (m:=checkCount "sorted" 1 1 _) (OM ?_)
 refine OL (kdx_collect (A:=A.in1) (knd:=PySem.strKind T.prog T.w) hh hv hat hz λh1 tk as hk hl hG=>?_)
 have l:(as.map Value.ref).length=kws.length:=by rw[OZ];exact hl
 refine OL (wpAny_newList ?_ (l▸hz))
 have ho:(h1.push {cls:=.type "list",data:=.seq (as.map Value.ref).toArray}).get? h1.objs.size=some (seqObj "list" (as.map Value.ref).toArray 0):=OU _ rfl
 have hT:∀i,i < kws.length->TupAt kws (λa=>s.heap.get? a=none∧a≠h1.objs.size) (h1.push {cls:=.type "list",data:=.seq (as.map Value.ref).toArray}) (as.map Value.ref) i:=λi hi=>by
  have ea:as[i]? =some (as[i]'(hl▸hi)):=Pb _
  obtain⟨key,k,x,e1,e2,e3⟩:=hG.pairs i _ ea
  obtain⟨t,rfl⟩:=Value.isStrOf_shape e2
  exact⟨_,k,t,x,by rw[Po,ea];rfl,e1,⟨Heap.get?_none_of_le (Nat.le_of_lt (hG.above _ (Pm ea))),Nat.ne_of_lt (hG.there (Pm ea))⟩,OT _ e3⟩
 refine OL (Pd (wpAny_call_entry slot_list_sort ⟨_,ho,rfl⟩ PyProof.Rows.entry_list_sort (gh ho l (λi hi=>(hT i hi).keep (λJ g=>g.2) λJ J J=>id) (Q7 hd) h8 λh2 p c hp hi keep hD=>⟨_,rfl,?_⟩) (args_list_sort _)))
 refine OM ⟨_,rfl,?_⟩
 have old:∀b o,s.heap.get? b=some o->b < h1.objs.size:=λb o e=>Pu (hk b o e)
 refine h h2 tk h1.objs.size (as.map Value.ref) p (λb o e=>keep b o (Nat.ne_of_lt (old b o e)) (OT _ (hk b o e))) ?_ ⟨_,hD⟩ hp hi λi hi=>(hT i hi).keep (λJ=>id) λb o g=>keep b o g.2
 induction q:s.heap.get? h1.objs.size with
 |none=>rfl
 |some o=>exact absurd (old _ _ q) (Nat.lt_irrefl _)
theorem zE {kws:List (Str×Value)}:(List.range kws.length).map (O6 kws)=(kws.map (·.1)).map Q8:=by
 refine List.ext_getElem? λi=>?_
 rw[Po,Po,Po]
 by_cases h:i < kws.length
 ·rw[List.getElem?_range h,Pb h]
  exact OY some (O5 (Pb h))
 ·rw[List.getElem?_eq_none (by rw[List.length_range];exact Pr h),List.getElem?_eq_none (Pr h)];rfl
end
variable {P:Pg} {W:r9} {U:List Addr} {Y:Hp} {Q:Value->Shared->Prop} {n:Nat} {r:Ev} {m:Fr} {env:Env} {own:List (Nat×Addr)}
section
variable {bad:Addr->Prop}
theorem xQ {kws:List (Str×Value)} {f:Txt->Option V} {vs:List Value} {ok:Addr->Prop} (nd:(kws.map (·.1)).Nodup) (rr:∀k,B1 T U bad h (f k) (valueAt kws (i3 k))) (nb:∀a,ok a->¬bad a) (ht:∀i,i < kws.length->TupAt kws ok h vs i) {p:List Nat}:
 (∀i∈p,i < kws.length)->(p.map (O6 kws)).all t6=true->z1 T U bad h ((p.map (O6 kws)).map λk=>.tup [.str k,(f k).getD .none]) (p.map λi=>vs.getD i Value.none):=by
 induction p with
 |nil=>exact λJ J=>.nil
 |cons i p ih=>exact λhp ha=>a7 ha λh1 h2=>.cons _ _ _ _ rfl (by
  induction ht i (hp i (.head _))with
  |mk a k t x e1 e2 g hat=>
   show VS T U bad h (.tup [.str (O6 kws i),(f (O6 kws i)).getD .none]) (vs.getD i Value.none)
   rw[List.getD_eq_getElem?_getD,e1]
   rw[O5 e2]at h1⊢
   have q:=rr (Q8 k)
   rw[sV,qn nd e2]at q
   exact .tup _ [.str k t,x] a ⟨0,hat⟩ (nb a g) (.cons _ _ _ _ rfl (.G4 _ _ (sV k▸.str _ t h1)) (by
    cases e:f (Q8 k)with
    |none=>rw[e]at q;cases q
    |some v=>rw[e]at q;cases q with|some _ _ g a=>exact .cons _ _ _ _ g a .nil))) (ih (λj hj=>hp j (.tail _ hj)) h2)
theorem aJ (c:d9 T W U Y s.heap) (hh:A.handled=none) {r d:Addr} {kws:List (Str×Value)} {f:Txt->Option V} {ks:List Txt} (hv:s.heap.IsItemsView r d) (hd:s.heap.DictOf (PySem.strKind T.prog T.w) d kws) (rr:∀k,B1 T U (k9 T W U) s.heap (f k) (valueAt kws (i3 k)))
 (hp:(kws.map (·.1)).Perm (ks.map i3)) (hu:Up ks) (h8:ks.length < 8) (ha:ks.all t6=true) (k:KV T W U s Q (.g6 (ks.map λk=>.tup [.str k,(f k).getD .none])) Y):wpAny (model T.prog T.w) A (call (.builtin "sorted") [.ref r]) Q E s:=
 nG hh hv hd (by rw[←OZ (f:=(·.1)),hp.length_eq,OZ];exact h8) λh' tk D vs p hk hn hl hpm hpw ht=>by
  have e:p.map (O6 kws)=ks:=List.Perm.eq_of_pairwise (λJ J J J=>List.le_antisymm) (List.Pairwise.map _ (λJ J q=>eU q) hpw) hu ((hpm.map (O6 kws)).trans (zE▸(gS ks▸hp.map Q8)))
  subst e
  have nn:∀d,d∈[D]->s.heap.get? d=none:=λd hd=>all1 (p:=λd=>s.heap.get? d=none) hn hd
  exact KV.made c hk hn (.l _ _ hl (xQ (Q7 hd) (λk=>(rr k).ms (bH hk nn)) (λa g q=>(R1 q).elim (λz=>g.2 (OX z)) (c.N3 g.1)) ht (λi hi=>List.mem_range.mp (hpm.mem_iff.mp hi)) ha)) k
end
section
theorem gn (tk:E5 T P) (c:d9 T W U Y s.heap) {a:Addr} {kws:List (Str×Value)} {o:Ex} {q p:Pos} (hd:s.heap.DictOf (strKind T.prog T.w) a kws) (lo:(a == sysModules)=false) (hq:(q.endLine == p.line)=true)
 (h:Q (.ref s.heap.objs.size) {s with heap:=s.heap.push {cls:=.type "dict_items",data:=.fields #[.ref a]}}):
 wpAny (model T.prog T.w) A (do standAt q.atName;methodCall o "items" q p env (.ref a) ([]:List Ex).length (backTo p (starEach [] env)) (backToKw p (keywordEach [] env))) Q E s:=
 OL (Pk (W8 rfl hq λpl=>getMethod_builtin hd.typeIs PySem.F.plainAttrs_dict PySem.F.slot_dict_items PySem.F.type_dict_items hd.mapOf.noDict (callWith_of (P:=λh=>T.K.In h) rfl (M5 (K:=T.K) rfl) (evalArgs_nil3 ⟨k7 tk c,
  call_meetsIn PySem.F.slot_dict_items hd.typeIs PySem.F.entry_dict_items (PySem.F.args_dict_items_1 _) (meets_dict_items (PySem.strKind T.prog T.w) a lo) ⟨⟨kws,hd⟩,h⟩⟩))))
theorem nH (tn:TN T P) (hr:g7 T n r.ev) (c:Cx T W n A env own m U Y s) {x:X} {e':Ex} (t:Tr T env.kindOf (.l4 x) e') (h:(s7 P r m (.l4 x) Y).c4 (KV T W U s Q) (XV T W U s E)):wpAny (model T.prog T.w) A (eval e' env) Q E s:=
 t.bX λo q1 q2 q3 p hk te hs hq=>by
  rw[u9]
  refine OL (match tn.blt with|⟨mg,mb,n1,n2,_,_,e3⟩=>aV c n1 n2 e3 rfl hk (callWith_of (P:=λh=>T.K.In h) rfl (M5 (K:=T.K) rfl) (evalArgs_plain (spliced_cons ?_))))
  rw[arm_eval_Call]
  refine OL (P1 hs (Bx hr c te h λov c9 wo c5 c8 w3 vo fo h=>a9 h λi ei h=>A9 (G:=λwo=>wpAny _ _ (do standAt q2.atName;methodCall o "items" q2 q3 env wo ([]:List Ex).length (backTo q3 (starEach [] env)) (backToKw q3 (keywordEach [] env))) _ _ c5) vo ei λa ha=>a9 h λob eo h=>w3.rel.at eo λa' ha' q=>?_))
  rw[ON (ha'.symm.trans ha)]at q
  have hk:∀b o,c5.heap.get? b=some o->(c5.heap.push {cls:=.type "dict_items",data:=.fields #[.ref a]}).get? b=some o:=g9 _ _
  have i8:i4 T W c8 c5 c9 c8 {c5 with heap:=c5.heap.push {cls:=.type "dict_items",data:=.fields #[.ref a]}}:=i4.keeps (t:=c5.toks) w3.rel hk
  have hv:(c5.heap.push {cls:=.type "dict_items",data:=.fields #[.ref a]}).IsItemsView c5.heap.objs.size a:=⟨_,OU _ rfl,rfl,rfl⟩
  have go:∀{s'},i4 T W U s c9 c8 s'->wpAny (model T.prog T.w) A (call (.builtin "sorted") [.ref c5.heap.objs.size]) Q E s'->wpAny (model T.prog T.w) A (spliced (backTo p (starEach [] env))) (λvs s'=>T.K.In s'.heap∧wpAny (model T.prog T.w) A (call (.builtin "sorted") ([]++(.ref c5.heap.objs.size::vs))) Q E s') E s':=λo k=>spliced_nil ⟨k7 tn.toE5 o.rel,k⟩
  refine w7 h (λh=>a9 h λf ef h=>a9 h λJ eg h=>i9 eg λg J=>a7 g λg1 g2=>?_) λh=>a9 h λJ ef h=>?_
  ·rw[H5 ef]at q
   rw[tn.fF]at g1 g2 h
   exact match q with|⟨kws,hd,lo,rr,u⟩=>gn tn.toE5 w3.rel hd lo hq (go (w3.trans i8) (i8.rel.at eo λb hb z=>(by
    rw[ON (hb.symm.trans ha),H5 ef]at z
    exact match z with|⟨kws,hd,lo,rr,u⟩=>aJ i8.rel c.ar.handled hv hd rr (aZ tn.sS hd rr u).1 (aZ tn.sS hd rr u).2 (OO g1) g2 (h.step (w3.trans i8)))))
  ·rw[W7 ef]at q
   exact match q with|⟨j,lo,ho⟩=>gn tn.toE5 w3.rel (v3 _ ho) lo hq (go (w3.trans i8) (aJ (f:=λJ=>none) (ks:=[]) i8.rel c.ar.handled hv (v3 _ (hk _ _ ho)) (λJ=>.none) (.refl _) .nil (by decide) rfl (h.step (w3.trans i8))))
end
section
structure LZ (T:i7) (n:Nat) (r:Ev):Prop where
 ev:g7 T n r.ev
 tr:D8 T n r.tr
 Y9:V0 T n r.Y9
 run:SRun T n r.run
 use:El T n r.ev
theorem Rm.low {F:Fx T} (r:Rm F (n+1)):Rm F n:=⟨r.r.lo,r.c⟩
theorem vd (th:TH T P) (h0:LZ T n r) {F:Fx T} {z:Zt} {m:Fr} {Y:Hp} {s:S} {st:PySem.Stmt} {Q:Flow->Shared->Prop} {E:Value->Shared->Prop} (rm:Rm F (n+1)) (f:Fs F z m Y) (t:I8 T F.env.kindOf s st) (h:(g8 P r m s Y).c4 (KF F Q) (XF F E)):wpAny (model T.prog T.w) F.A (exec st F.env) Q E z.s:=by
 cases s with
 |assign=>exact pQ th.toE5 h0.ev h0.use rm.low f t h
 |N0=>exact me th.toE5 h0.ev rm.low f t h
 |F7=>exact ma th.toE5 h0.ev rm.low f t h
 |H4=>exact ni th.toE5 h0.ev rm.low f t h
 |expr=>exact wA h0.ev rm.low f t h
 |ite=>exact zK h0.tr h0.Y9 rm.low f t h
 |y6=>exact qm h0.tr h0.Y9 rm.low f t h
 |F2=>exact Ae th.toTM h0.ev h0.Y9 rm.low f t h
 |ret=>exact yC h0.ev rm.low f t h
 |raise=>exact qS th.toTE h0.ev rm f t h
 |o8=>exact h.elim
 |F1=>exact kT th.toE5 h0.ev rm.low f t h
 |K4=>exact kO th.toE5 h0.ev rm.low f t h
 |fT=>exact vE (r:=r) th.toE5 rm.low f t h
 |J0=>exact kL th.toE5 h0.ev rm.low f t h
 |pass=>exact t.elim λn q=>(Option.isSome_iff_exists.mp (show(mi st).isSome=true from q)).elim λp e=>sD e▸wpAny_Pass (h z f)
theorem Aj (th:TH T P) (h0:LZ T n r):V0 T (n+1) (a8 P r):=by
 intro F z m Y ss ss' Q E rm f t h
 induction t generalizing z m Y with
 |nil=>exact wpAny_execs_nil (h z f)
 |cons s s' ss ss' ts tb ih=>exact wpAny_execs_cons (vd th h0 rm f ts (R.c4.mono (R.d5.mp h) (λp c7 k=>(by
  obtain⟨fl,m'⟩:=p
  induction fl with
  |ret v=>exact k
  |next=>exact λz f=>ih f k)) λJ J x=>x))
theorem DH (th:TH T P) (h0:LZ T n r):g7 T (n+1) (s7 P r):=by
 intro W A env own m U Y s e e' Q E c t h
 cases e with
 |lit=>exact zv c t h
 |OK=>exact vC th.toE5 c t h
 |bin=>exact AW h0.ev c.low t h
 |not=>exact yX h0.ev c.low t h
 |neg=>exact ze h0.ev c.low t h
 |R5=>exact t.a7 λJ J t=>uC h0.ev c.low (b:=true) t h
 |mN=>exact t.i0 λJ J t=>uC h0.ev c.low (b:=false) t h
 |cmp=>exact AI h0.ev c.low t h
 |ite=>exact zL h0.ev h0.tr c.low t h
 |call=>exact xb th.toTD h0.ev h0.run c t h
 |l5=>exact vG th.toTQ h0.ev h0.run c.low t h
 |attr=>exact xj th.toE5 h0.ev c.low t h
 |sub=>exact yh h0.ev c.low t h
 |slice=>exact qH h0.ev c.low t h
 |list=>exact vK h0.ev c.low t h
 |tuple=>exact qr h0.ev c.low t h
 |dict=>exact wF th.toE5 h0.ev c.low t h
 |Y5=>exact qV h0.ev c.low t h
 |K3=>exact qW th.toE5 h0.ev c.low t h
 |comp=>exact wL th.toTM h0.ev h0.tr c.low t h
 |A3=>exact rJ th h0.ev c t h
 |l4=>exact nH th.toTN h0.ev c.low t h
theorem Jo (th:TH T P) (n:Nat):LZ T n (b9 P n):=by
 induction n with
 |zero=>exact⟨λJ J h=>h.elim,λJ J h=>h.elim,λJ J J h=>h.elim,λJ J J J h=>h.elim,λJ J h=>h.elim⟩
 |succ n ih=>exact⟨DH th ih,BR ih.ev ih.tr,Aj th ih,yA th.toTM ih.Y9,xH th.toTM ih.ev ih.tr⟩
end
end Mine
end
section
open PySem PySem.W PyProof.Rows PySem.Calls
namespace Mine
noncomputable def mh:Value->Option Addr
 |.ref a=>some a
 |_=>none
noncomputable def uG:Data->Option FuncData
 |.func F=>some F
 |_=>none
noncomputable def IA:Data->Option (Array Value)
 |.seq xs _=>some xs
 |_=>none
noncomputable def eJ:FuncBody->Option (List PySem.Stmt)
 |.stmts b=>some b
 |_=>none
theorem jZ {v:Value} {a:Addr} (h:mh v=some a):v=.ref a:=by induction v<;>first|exact ns h|(cases h;rfl)
theorem sF {v:Data} {a:FuncData} (h:uG v=some a):v=.func a:=by induction v<;>first|exact ns h|(cases h;rfl)
theorem sC {v:FuncBody} {a:List PySem.Stmt} (h:eJ v=some a):v=.stmts a:=by induction v<;>first|exact ns h|(cases h;rfl)
noncomputable def wj (K:Frag) (a:Addr):Option FuncData:=(K.lookup a).bind λo=>uG o.data
noncomputable def As (K:Frag) (v:Value):List Value:=((mh v).bind λa=>(K.lookup a).bind λo=>IA o.data).elim [] Array.toList
noncomputable abbrev uI:=(Nat->Value)->PySem.Setting->Option (List (Str×Value))
noncomputable def bL (K:Frag) (F:FuncData) (k:Nat):uI:=λv S=>peek K S (bindArgs F ⟨(List.range k).map v,[]⟩)
noncomputable def bR (T:i7) (fd:Fd) (dv:List Value) (k:Nat):uI:=λv J=>some ((fd.params.map T.nm).zip ((List.range k).map v++dv.drop (fd.dD.length - (fd.params.length - k))))
noncomputable def eO (fd:Fd):List Nat:=(List.range (fd.params.length+1)).filter λk=>Nat.ble (fd.params.length - k) fd.dD.length
noncomputable def gF {α β:Type} (g:α->β) (l:List α):List β:=l.foldr (λa r=>g a::r) []
noncomputable def Ld (T:i7) (p:Option Addr×Fd):List uI:=(p.1.bind (wj T.K)).elim [] λF=>(eO p.2).map (bL T.K F)
noncomputable def Lc (T:i7) (p:Option Addr×Fd):List uI:=(p.1.bind (wj T.K)).elim [] λF=>gF (bR T p.2 (As T.K F.defaults)) (eO p.2)
theorem ue {α β:Type} {f g:α->β} {l:List α} (h:l.map f=gF g l):∀a∈l,f a=g a:=by
 induction l with
 |nil=>exact λJ q=>(nomatch q)
 |cons x r ih=>exact λa q=>(OW q).elim (λe=>e▸(List.cons.inj (h:f x::r.map f=g x::gF g r)).1) (ih (List.cons.inj (h:f x::r.map f=g x::gF g r)).2 a)
theorem range_getD {l:List Value}:(List.range l.length).map (λi=>l.getD i Value.none)=l:=by
 refine List.ext_getElem? λi=>?_
 rw[Po]
 by_cases h:i < l.length
 ·rw[List.getElem?_range h];exact(OY some (List.getD_eq_getElem?_getD.trans (OY (·.getD Value.none) (Pb h)))).trans (Pb h).symm
 ·rw[List.getElem?_eq_none (by rw[List.length_range];exact Pr h),List.getElem?_eq_none (Pr h)];rfl
variable {T:i7}
section
variable {kd:Kd} {a:Addr} {fd:Fd} {F:FuncData} {v:V} {w:Value}
theorem AS {dv:List Value} (h:(eO fd).map (bL T.K F)=gF (bR T fd dv) (eO fd)) (s:Shared) (args:List Value) (X:T.K.In s.heap) (h1:args.length≤fd.params.length) (h2:fd.params.length - args.length≤fd.dD.length):
 BindsTo s F ⟨args,[]⟩ ((fd.params.map T.nm).zip (args++dv.drop (fd.dD.length - (fd.params.length - args.length)))):=
 kp_binds X λS=>by
  have e:=congrFun (congrFun (ue h args.length (List.mem_filter.mpr ⟨Py (Nat.lt_succ_of_le h1),Pe h2⟩)) λi=>args.getD i Value.none) S
  unfold bL bR at e
  rw[range_getD]at e
  exact e
noncomputable def Ds (T:i7) (v:V) (w:Value):Bool:=match w with
 |.bool b=>f6 (L5 v) λc=>b == c
 |.int i _=>f6 (z5 v) λj=>decide (i=j)
 |.str s _=>f6 (r6 v) λt=>decide (s=i3 t)&&t6 t
 |.ref a=>f6 (Ej v) (λk=>decide (T.fn k=some a))|| f6 (Bh v) λk=>decide (T.cls k=some a)
 |w=>f6 (Bk v) λb=>decide (w=T.bi b)
theorem dZ (h:Ds T v w=true):bN T v w:=by
 have bi:∀{w:Value},(f6 (Bk v) λb=>decide (w=T.bi b))=true->bN T v w:=λh=>b7 h λb e h=>mx e▸OP h▸.bi b
 induction w with
 |bool b=>exact b7 h λc e h=>cO e▸beq_iff_eq.mp h▸.bool b
 |int i t=>exact b7 h λc e h=>hM e▸OP h▸.int i t
 |str s t=>exact b7 h λc e h=>a7 h λh1 h2=>U7 e▸OP h1▸.str c t h2
 |ref a=>exact(Bool.or_eq_true_iff.mp h).elim (λh=>b7 h λk e h=>mq e▸.fn k a (OP h)) λh=>b7 h λk e h=>qa e▸.cls k a (OP h)
 |_=>exact bi h
noncomputable def HV (T:i7) (t0:Addr) (v:V) (w:Value):Bool:=Ds T v w ||(f6 (N1 v) λxs=>xs.isEmpty&&decide (w=.ref t0))
theorem uk {t0:Addr} (vO:T.K.In T.B) (h0:T.K.lookup t0=some (qy [] 0)) {U:List Addr} {bad:Addr->Prop} {h:Heap} (hs:T.B.StaysIn h) (hb:∀a,bad a->T.B.get? a=none) (e:HV T t0 v w=true):solid v=true∧VS T U bad h v w:=
 (Bool.or_eq_true_iff.mp e).elim (λe=>⟨(dZ e).solid,.G4 _ _ (dZ e)⟩) λe=>b7 e λxs ex e=>a7 e λh1 h2=>by
  rw[bF ex,OP h2,List.isEmpty_iff.mp h1]
  exact⟨rfl,.tup [] [] t0 ⟨0,hs _ _ (vO _ _ h0)⟩ (λq=>d0 (hb _ q) (vO _ _ h0)) .nil⟩
theorem DN {t0:Addr} (vO:T.K.In T.B) (h0:T.K.lookup t0=some (qy [] 0)) {U:List Addr} {bad:Addr->Prop} {h:Heap} (hs:T.B.StaysIn h) (hb:∀a,bad a->T.B.get? a=none) {vs:List V}:∀{ws:List Value},all2 (HV T t0) vs ws=true->z1 T U bad h vs ws:=by
 induction vs with
 |nil=>exact λ{ws} e=>by induction ws with
  |nil=>exact .nil
  |cons=>exact Bool.noConfusion e
 |cons v vs ih=>exact λ{ws} e=>by induction ws with
  |nil=>exact Bool.noConfusion e
  |cons w ws=>exact a7 e λh1 h2=>.cons _ _ _ _ (uk (U:=U) vO h0 hs hb h1).1 (uk vO h0 hs hb h1).2 (ih h2)
variable (T)in
noncomputable def JV (kd:Kd) (F:FuncData):Bool:=(T.lam kd).elim true λPt=>T.tabs.any (Nat.beq Pt)&&(decide (T.zA Pt=F.qualname++(".<locals>.":Str)++("<lambda>":Str))&&f6 (mh F.code) λc=>codeHdIn T.K c Pt)
variable (T)in
noncomputable def Kq (t0:Addr) (fd:Fd) (F:FuncData) (kd:Kd):Bool:=!F.scope.isCoroutine&&(!F.scope.isGenerator&&(decide (F.scope.kind=.function)&&(decide (F.globals=mainGlobals)&&(F.closure.isEmpty&&(decide (F.builtins=builtinsNs)&&(codeIn T.K F.code F.qualname&&
 (all2 (HV T t0) fd.dD (As T.K F.defaults)&&(decide fd.params.Nodup&&(fd.params.all (λx=>cH T kd x (T.nm x))&&(F.scope.names.all (λx=>!decide (x.2=.cell)|| decide (F.scope.names.lookup x.1=some .cell))&&JV T kd F))))))))))
variable (T)in
noncomputable def IW (t0:Addr) (tb:Kd->List PySem.Stmt->Bool) (a:Addr) (fd:Fd):Bool:=f6 (wj T.K a) λF=>f6 (eJ F.body) λb=>Kq T t0 fd F (λn=>F.scope.names.lookup n)&&tb (λn=>F.scope.names.lookup n) b
theorem ly {t0:Addr} (vO:T.K.In T.B) (h0:T.K.lookup t0=some (qy [] 0)) {tb:Kd->List PySem.Stmt->Bool} {Tb:Kd->List PySem.Stmt->Prop} (htb:∀kd b,tb kd b=true->Tb kd b) (h:IW T t0 tb a fd=true) (hb:Ld T (some a,fd)=Lc T (some a,fd)):Er T a fd Tb:=
 b7 h λF eF h=>b7 h λb eb h=>a7 h λh ht=>a7 h λh1 h=>a7 h λh2 h=>a7 h λh3 h=>a7 h λh4 h=>a7 h λh5 h=>a7 h λh6 h=>a7 h λh7 h=>a7 h λh8 h=>a7 h λh9 h=>a7 h λh10 h=>a7 h λh11 h12=>by
  unfold Ld Lc at hb
  rw[show(some a).bind (wj T.K)=some F from eF]at hb
  refine⟨F,b,As T.K F.defaults,⟨?_,not_true h1,not_true h2,sC eb,OP h3,OP h4,List.isEmpty_iff.mp h5,OP h6,h7,AS hb,λU bad h hs hb=>DN vO h0 hs hb h8,OP h9,λx hx=>fm (G:=λJ=>s6 T _ x) (List.all_eq_true.mp h10 x hx) id,λx hx e=>?_,λPt e=>?_⟩,htb _ _ ht⟩
  ·exact a0 eF λo eo ef=>⟨o.cls,o.dict,o.slots,eo.trans (OY (λd=>some (⟨o.cls,o.dict,d,o.slots⟩:Obj)) (sF ef))⟩
  ·exact(Bool.or_eq_true_iff.mp (List.all_eq_true.mp h11 x hx)).elim (λq=>absurd e (of_decide_eq_false (not_true q))) OP
  ·unfold JV at h12
   rw[e]at h12
   exact a7 h12 λq1 q=>a7 q λq2 q3=>b7 q3 λc ec q3=>match List.any_eq_true.mp q1 with|⟨t,ht,et⟩=>⟨Pc et▸ht,OP q2,c,jZ ec,codeHd_of_K vO q3⟩
noncomputable def cK (K:Frag) (a:Addr):Option (List PySem.Stmt):=(wj K a).bind λF=>eJ F.body
theorem Er.uE {Tb Tb':Kd->List PySem.Stmt->Prop} {b:List PySem.Stmt} (h:Er T a fd Tb) (e:cK T.K a=some b) (k:∀kd,Tb kd b->Tb' kd b):Er T a fd Tb':=match h with
 |⟨F,body,dv,h,t⟩=>match h.look with
  |⟨oc,od,osl,hl⟩=>by
   have q:body=b:=by
    unfold cK wj at e
    rw[hl]at e
    have e:eJ F.body=some b:=e
    rw[h.body]at e
    exact ON e
   subst q
   exact⟨F,body,dv,h,k _ t⟩
end
noncomputable def Bv:List Txt:=names++[[119,104,121],[99,97,108,108]]
noncomputable def JD (x:Nat):Txt:=(Bv[x]?).getD (List.replicate (x+1) 0)
noncomputable def kH (x:Nat):Str:=i3 (JD x)
noncomputable def HH:List (Option Addr):=[some 127,some 141,some 148,some 176,some 183,some 190,some 197,some 204,some 211,some 223,some 228,some 233,some 238,none,some 259,some 273,some 278,some 285,some 292,some 299,some 306,some 313,some 321,some 328,some 335,none,none,some 380,some 394,some 399,some 406,some 413,some 420,some 427,some 434,some 442,some 449,some 456,some 463,some 470,some 477,some 484,some 491,some 498,some 505,some 510,some 515,some 520,some 525,some 532,some 539,some 553,some 560,some 567,some 572,some 579,some 584,some 591,some 598]
noncomputable def wV:List Addr:=[214,262,353,383]
noncomputable def JU (kd:Kd):Option Addr:=if kd "due"=some .local then some 569 else if kd "at"=some .cell then some 574 else none
noncomputable def LP (k:Nat):Option Addr:=(HH[k]?).join
noncomputable def NU:List Str:=["last","notes","zaps","parent","head","children","props","origin","used","below","quota","reserved","refquota","packed","summed","copies","dedup","default","choices","least","most","is_power"]
noncomputable def X9 (prog:Program) (w:World) (K:Frag) (B:Heap):i7 where
 prog:=prog
 w:=w
 fn:=LP
 cls:=λc=>wV[c]?
 bi:=AX
 nm:=kH
 univ:=univ
 glob:=uc
 exc:=99
 why:="why"
 K:=K
 tabs:=[569,574]
 zA:=λa=>if a=569 then "_law_call.<locals>.<lambda>" else "_law_is_told.<locals>.<lambda>"
 lam:=JU
 A3:=546
 Q0:="_law_heard"
 S1:="InvalidProp"
 AF:=NU
 SF:=NU
 B:=B
theorem vz:Bv.Nodup:=by decide+kernel
theorem zd:(Bv.all λk=>Nat.blt 0 (k.headD 0))=true:=by decide+kernel
theorem CN:(Bv.all λk=>!decide (k=[46,48]))=true:=by decide+kernel
theorem qp:univ.Nodup:=by decide+kernel
theorem BN:sortedS (univ.map i3)=true:=by decide+kernel
theorem kG {x:Nat} {G:Txt->Prop} (h1:∀k,Bv[x]? =some k->G k) (h2:x≥Bv.length->G (0::List.replicate x 0)):G (JD x):=by
 unfold JD
 cases e:Bv[x]? with
 |some k=>exact h1 k e
 |none=>exact h2 (List.getElem?_eq_none_iff.mp e)
theorem ua {k:Txt} {x n:Nat} (e:Bv[x]? =some k) (h:k=0::List.replicate n 0):False:=Nat.lt_irrefl 0 (by
 have q:=List.all_eq_true.mp zd k (Pm e)
 rw[h]at q
 exact OO q)
theorem GO (x y:Nat) (h:kH x=kH y):x=y:=
 kG (x:=x) (G:=λa=>a=JD y->x=y) (λk e=>kG (x:=y) (G:=λb=>k=b->x=y) (λq e2 z=>(List.getElem?_inj (List.getElem?_eq_some_iff.mp e).1 vz).mp (e.trans ((OY some z).trans e2.symm))) λJ z=>(ua e z).elim)
  (λJ=>kG (x:=y) (G:=λb=>0::List.replicate x 0=b->x=y) (λq e2 z=>(ua e2 z.symm).elim) λJ z=>by
   have q:=OY List.length z
   rw[List.length_cons,List.length_cons,List.length_replicate,List.length_replicate]at q
   exact Nat.succ.inj q) (dH h)
theorem za (x:Nat) (k:Txt) (e:names[x]? =some k):kH x=i3 k:=by
 have q:Bv[x]? =some k:=by unfold Bv;rw[Pn (List.getElem?_eq_some_iff.mp e).1];exact e
 unfold kH JD
 rw[q];rfl
theorem GP (x:Nat):kH x≠ ".0":=λh=>kG (x:=x) (G:=λa=>a=[46,48]->False) (λk e z=>of_decide_eq_false (not_true (List.all_eq_true.mp CN k (Pm e))) z) (λJ z=>nomatch (List.cons.inj z).1) (dH (b:=[46,48]) h)
theorem jn {m:Fr} {x:Nat} {v:V} (h:d6 m x=some v):(x,v)∈m:=by
 induction m with
 |nil=>exact nomatch h
 |cons p r ih=>
  have h:(bif Nat.beq p.1 x then some p.2 else d6 r x)=some v:=h
  cases e:Nat.beq p.1 x with
  |true=>rw[e]at h;rw[←Pc e,←ON h];exact .head _
  |false=>rw[e]at h;exact .tail _ (ih h)
theorem dG {α β:Type} {l:List α} {r:List β} {i:Nat} {a:α} {b:β} (h1:l[i]? =some a) (h2:r[i]? =some b):(a,b)∈l.zip r:=Pm (List.getElem?_zip_eq_some.mpr ⟨h1,h2⟩)
section
variable (T:i7)
noncomputable def FE (C:Addr) (n:Str):Bool:=plainGet T.K C n&&(hasDictIn T.K C&&(decide (findIn T.K (.ref C) n=some none)&&(decide (findIn T.K (.ref C) "__setattr__"=some (some (.builtin "object.__setattr__")))&&(plainOver T.K C&&decide (takerIn T.K C n=some none)))))
noncomputable def Ff (p:Nat×V):Bool:=f6 (nsIn T.K mainGlobals (T.nm p.1)) λo=>o.elim (!decide (T.nm p.1= "__name__")&&f6 (bootBuiltins (T.nm p.1)) (Ds T p.2)) (Ds T p.2)
noncomputable def EK (C:Addr) (p:Nat×Nat):Bool:=f6 (T.fn p.2) λa=>plainGet T.K C (T.nm p.1)&&(decide (findIn T.K (.ref C) (T.nm p.1)=some (some (.ref a)))&&isFn T.K (.ref a))
noncomputable def cz (K:Frag) (C:Addr):Option Addr:=(findIn K (.ref C) "__init__").join.bind mh
noncomputable def KQ (t0:Addr) (p:Option Addr×Fd):Bool:=p.1.elim true λa=>keepIn T.K (.ref a)&&IW T t0 (λkd b=>all2 (iM T kd 40) p.2.body b) a p.2
noncomputable def GW (t0 fI:Addr) (cd:Cd) (fd:Fd):Bool:=f6 fd.params.head? λx0=>IW T t0 (λkd b=>all2 (iM T kd 40) (cd.body.map (JM x0)) b) fI fd
noncomputable def KW (t0:Addr) (p:Addr×Cd):Bool:=keepIn T.K (.ref p.1)&&(p.2.meths.all (EK T p.1)&&(T.AF.all (FE T p.1)&&f6 (cz T.K p.1) λfI=>makesIn T.K p.1&&(isFn T.K (.ref fI)&&f6 p.2.init λk=>bif p.2.keeps then decide (T.fn k=some fI)else f6 (G5[k]?) (GW T t0 fI p.2))))
noncomputable def NG (l:List (Str×Option Value)):Bool:=l.all λp=>decide (nsIn T.K mainGlobals p.1=some p.2)
noncomputable def Ky (t0:Addr):Bool:=keepIn T.K (.ref T.exc)&&(decide (findIn T.K (.ref T.exc) "__setattr__"=some (some (.builtin "object.__setattr__")))&&(decide (findIn T.K (.ref T.exc) T.why=some none)&&(decide (findIn T.K (.ref T.exc) "__init__"=some (some (.ref 35)))&&(isFn T.K (.ref 35)&&
 (decide (findIn T.K (.ref T.exc) "__getattribute__"=some (some (.builtin "BaseException.__getattribute__")))&&(decide (findIn T.K (.ref T.exc) "__getattr__"=some none)&&(hasDictIn T.K T.exc&&(keepIn T.K (.ref T.A3)&&(IW T t0 (λkd J=>decide (kd "Exception"=some .globalImplicit)) 35 ⟨[6,151],[],[]⟩&&
 IW T t0 (λkd J=>decide (kd T.S1=some .globalImplicit)&&decide (kd "fault"=some .local)) 546 ⟨[152],[],[]⟩)))))))))
noncomputable def rV (t0:Addr):Bool:=uc.all (Ff T)&&((HH.zip G5).all (KQ T t0)&&((wV.zip Q9).all (KW T t0)&&(NG T [("enumerate",none),("range",none),("sorted",none),("Exception",none),("InvalidProp",some (.ref 99)),("_law_heard",some (.ref 546))]&&Ky T t0)))
noncomputable def vm (K:Frag):List (Option Addr×Fd):=(HH.zip G5)++((wV.zip Q9).map (λp=>(cz K p.1,(p.2.init.bind λk=>G5[k]?).getD ⟨[],[],[]⟩))++[(some 35,⟨[6,151],[],[]⟩),(some 546,⟨[152],[],[]⟩)])
end
variable {w:World} {prog:Program} {K:Frag}
section
variable {B:Heap} {mg mb:Str->Option Value} {t0:Addr}
structure uH (T:i7) (t0:Addr):Prop where
 glob:uc.all (Ff T)=true
 defs:(HH.zip G5).all (KQ T t0)=true
 pC:(wV.zip Q9).all (KW T t0)=true
 ns:NG T [("enumerate",none),("range",none),("sorted",none),("Exception",none),("InvalidProp",some (.ref 99)),("_law_heard",some (.ref 546))]=true
 exc:Ky T t0=true
theorem Ah (h:rV T t0=true):uH T t0:=a7 h λh1 h=>a7 h λh2 h=>a7 h λh3 h=>a7 h λh4 h=>⟨h1,h2,h3,h4,h⟩
structure IQ (T:i7) (t0 C fI:Addr) (cd:Cd):Prop where
 keep:keepIn T.K (.ref C)=true
 meths:cd.meths.all (EK T C)=true
 attrs:T.AF.all (FE T C)=true
 MO:cz T.K C=some fI
 makes:makesIn T.K C=true
 fn:isFn T.K (.ref fI)=true
 body:(f6 cd.init λk=>bif cd.keeps then decide (T.fn k=some fI)else f6 (G5[k]?) (GW T t0 fI cd))=true
theorem X1 (f:uH T t0) {c:Nat} {C:Addr} {cd:Cd} (h1:wV[c]? =some C) (h2:Q9[c]? =some cd):∃fI,IQ T t0 C fI cd:=
 a7 (List.all_eq_true.mp f.pC (C,cd) (dG h1 h2)) λk1 h=>a7 h λk2 h=>a7 h λk3 h=>b7 h λfI e h=>a7 h λk4 h=>a7 h λk5 k6=>⟨fI,k1,k2,k3,e,k4,k5,k6⟩
theorem jw {C fI:Addr} (h:cz K C=some fI):findIn K (.ref C) "__init__"=some (some (.ref fI)):=a0 h λv ev h=>by
 rw[jZ h]at ev
 cases e:findIn K (.ref C) "__init__" with
 |none=>rw[e]at ev;cases ev
 |some o=>rw[e]at ev;exact OY some (show o=some (.ref fI)from ev)
theorem fy {c:Nat} {C:Addr} (h:wV[c]? =some C):∃cd,Q9[c]? =some cd:=⟨_,Pb (show c < Q9.length from(List.getElem?_eq_some_iff.mp h).1)⟩
theorem lu {k:Nat} {a:Addr} (h:LP k=some a):HH[k]? =some (some a):=by
 unfold LP at h
 cases e:HH[k]? with
 |none=>rw[e]at h;cases h
 |some o=>rw[e]at h;exact OY some h
theorem HF {k:Nat} {a:Addr} (h:LP k=some a):∃fd,G5[k]? =some fd:=⟨_,Pb (show k < G5.length from(List.getElem?_eq_some_iff.mp (lu h)).1)⟩
theorem uo (f:uH T t0) {k:Nat} {a:Addr} {fd:Fd} (h1:HH[k]? =some (some a)) (h2:G5[k]? =some fd):keepIn T.K (.ref a)=true∧IW T t0 (λkd b=>all2 (iM T kd 40) fd.body b) a fd=true:=
 a7 (List.all_eq_true.mp f.defs (some a,fd) (dG h1 h2)) λk1 k2=>⟨k1,k2⟩
theorem jH (f:uH T t0) {x:Str} {o:Option Value} (h:(x,o)∈[(("enumerate":Str),(none:Option Value)),("range",none),("sorted",none),("Exception",none),("InvalidProp",some (.ref 99)),("_law_heard",some (.ref 546))]):nsIn T.K mainGlobals x=some o:=OP (List.all_eq_true.mp f.ns (x,o) h)
theorem Ji (hK:K.In B) (hmg:B.Ns mainGlobals mg) (hmb:B.Ns builtinsNs mb) (hbi:∀x:Str,x≠ "__name__"->mb x=bootBuiltins x) (hlim:B.NoLimit) (hbl:∀Pt,Pt∈[569,574]->B.BuiltinsAt mg Pt) (h0:K.lookup t0=some (qy [] 0)) (hF:rV (X9 prog w K B) t0=true)
 (hB:(vm K).map (Ld (X9 prog w K B))=gF (Lc (X9 prog w K B)) (vm K)) (hX:∃x:XD,K.lookup 99=some (x.obj 99)) (hE:findCls K (.type "Exception") (.type "type") "__init__"=some (.val (.builtin "Exception.__init__")))
 {b1 b2:List PySem.Stmt} (e1:cK K 35=some b1) (t1:∀kd,kd "Exception"=some .globalImplicit->LY (X9 prog w K B) 6 151 kd b1) (e2:cK K 546=some b2) (t2:∀kd,kd "InvalidProp"=some .globalImplicit->kd "fault"=some .local->LX (X9 prog w K B) 152 "fault" kd b2):TH (X9 prog w K B) pg:=by
 have f:=Ah hF
 have x:=f.exc
 refine a7 x λx1 x=>a7 x λx2 x=>a7 x λx3 x=>a7 x λx4 x=>a7 x λx5 x=>a7 x λx6 x=>a7 x λx7 x=>a7 x λx8 x=>a7 x λx9 x=>a7 x λx10 x11=>?_
 have mg0:∀{x:Str},nsIn K mainGlobals x=some none->mg x=none:=λe=>mg_none_of hK hmg e
 have mb0:∀{x:Str} {v:Value},x≠ "__name__"->bootBuiltins x=some v->mb x=some v:=λn e=>(hbi _ n).trans e
 have hmem:∀{p:Option Addr×Fd},p∈vm K->Ld (X9 prog w K B) p=Lc (X9 prog w K B) p:=λ{p}=>ue hB p
 exact{
  EH:=rfl
  fF:=rfl
  LJ:=za
  rR:=GO
  glob:=⟨mg,mb,hmg,hmb,λx v e=>b7 (List.all_eq_true.mp f.glob _ (jn e)) λo eo h=>by
   induction o with
   |some u=>exact⟨u,dZ h,.inl (mg_of hK hmg eo)⟩
   |none=>exact a7 h λh1 h2=>b7 h2 λu eu h=>⟨u,dZ h,.inr ⟨mg0 eo,(hbi _ (of_decide_eq_false (not_true h1))).trans eu⟩⟩⟩
  tI:=hlim
  vO:=hK
  bi:=λb=>by induction b<;>rfl
  small:=by show univ.length≤1000;decide
  af:=λn hn c C hc=>(fy hc).elim λcd hcd=>(X1 f hc hcd).elim λfI q=>a7 (List.all_eq_true.mp q.attrs n hn) λa1 a=>a7 a λa2 a=>a7 a λa3 J=>⟨a1,a2,OP a3⟩
  sf:=λn hn c C hc=>(fy hc).elim λcd hcd=>(X1 f hc hcd).elim λfI q=>a7 (List.all_eq_true.mp q.attrs n hn) λJ a=>a7 a λa2 a=>a7 a λJ a=>a7 a λa4 a=>a7 a λa5 a6=>⟨OP a4,a5,OP a6,a2⟩
  dot:=GP
  fns:=λk a fd ha hfd=>ly hK h0 (λkd b h=>.of h) (uo f (lu ha) hfd).2 (hmem (OQ _ (dG (lu ha) hfd)))
  l5:=λc C m k hC hm=>a0 hm λcd hcd h=>a0 h λv hv h=>(X1 f hC hcd).elim λfI q=>by
   rw[mq h]at hv
   obtain⟨p,hp,e⟩:=List.mem_map.mp (jn hv)
   cases e
   exact b7 (List.all_eq_true.mp q.meths p hp) λa ha h=>a7 h λh1 h=>a7 h λh2 h3=>⟨a,ha,h1,OP h2,h3⟩
  keep:=λk a ha=>(HF ha).elim λfd hfd=>(uo f (lu ha) hfd).1
  blt:=⟨mg,mb,hmg,hmb,⟨mg0 (jH f (.head _)),mb0 (by decide) (by rfl')⟩,⟨mg0 (jH f (.tail _ (.head _))),mb0 (by decide) (by rfl')⟩,⟨mg0 (jH f (.tail _ (.tail _ (.head _)))),mb0 (by decide) (by rfl')⟩⟩
  LV:=λJ=>rfl
  sS:=⟨BN,qp⟩
  n0:=by rfl'
  n1:=by rfl'
  n2:=by rfl'
  n3:=by rfl'
  n4:=by rfl'
  n5:=by rfl'
  ctor:=λc C cd k hC hcd hi=>(X1 f hC hcd).elim λfI q=>⟨fI,λhk=>by
   have b:=q.body
   rw[hi,hk]at b
   exact OP b,q.makes,jw q.MO,q.fn⟩
  ER:=λc C hC=>(fy hC).elim λcd hcd=>(X1 f hC hcd).elim λfI q=>q.keep
  make:=λc C cd k fd hC hcd hi hk hfd=>(X1 f hC hcd).elim λfI q=>by
   have b:=q.body
   rw[hi,hk]at b
   have b:f6 (G5[k]?) (GW (X9 prog w K B) t0 fI cd)=true:=b
   rw[show G5[k]? =some fd from hfd]at b
   have hm:(some fI,fd)∈vm K:=OS _ (OQ _ (List.mem_map.mpr ⟨(C,cd),dG hC hcd,by
    show(cz K C,(cd.init.bind λk=>G5[k]?).getD _)=_
    rw[hi,show cz K C=some fI from q.MO]
    exact OY (λz=>(some fI,Option.getD z ⟨[],[],[]⟩)) hfd⟩))
   exact b7 (show f6 fd.params.head? _=true from b) λx0 e0 b=>by
    induction hp:fd.params with
    |nil=>rw[hp]at e0;cases e0
    |cons y ps=>
     rw[hp]at e0
     cases e0
     exact⟨fI,x0,ps,jw q.MO,hp,ly hK h0 (λkd b h=>.of h) b (hmem hm)⟩
  cls:=hX
  Fi:=x1
  Kz:=OP x2
  HN:=OP x3
  KD:=hE
  ui:=⟨mg,mb,hmg,hmb,mg_of hK hmg (jH f (.tail _ (.tail _ (.tail _ (.tail _ (.head _)))))),mg0 (jH f (.tail _ (.tail _ (.tail _ (.head _))))),mb0 (by decide) (by rfl')⟩
  MR:=by rfl'
  NS:=⟨35,6,151,OP x4,x5,by rfl',by rfl',(ly hK h0 (Tb:=λkd J=>kd "Exception"=some .globalImplicit) (λJ J h=>OP h) x10 (hmem (OS _ (OS _ (.head _))))).uE e1 λkd h=>t1 kd h⟩
  NT:=⟨mg,hmg,hbl⟩
  NR:=OP x6
  NQ:=OP x7
  Fj:=x8
  EX:=x9
  EY:=⟨mg,hmg,mg_of hK hmg (jH f (.tail _ (.tail _ (.tail _ (.tail _ (.tail _ (.head _)))))))⟩
  NO:=by rfl'
  EZ:=⟨152,"fault",by rfl',by rfl',(ly hK h0 (Tb:=λkd J=>kd "InvalidProp"=some .globalImplicit∧kd "fault"=some .local) (λJ J h=>a7 h λh1 h2=>⟨OP h1,OP h2⟩) x11 (hmem (OS _ (OS _ (.tail _ (.head _)))))).uE e2 λkd h=>t2 kd h.1 h.2⟩}
end
noncomputable abbrev ye:List Addr:=[569,574]
noncomputable abbrev FA (h:Heap):Heap:=hideAll h ye
section
variable {h:Heap}
abbrev TabsAt (h:Heap):Prop:=∀P,P∈[574,569]->h.get? P=some (tabObj #[])
theorem V6 {P:Addr} (q:P∈ye):P∈([574,569]:List Addr):=(OW q).elim (λe=>e▸.tail _ (.head _)) λq=>OX q▸.head _
theorem kD (hT:TabsAt h) {a:Addr} {o:Obj} (e:h.get? a=some o) (n:∀vs,o.data≠.fields vs):a∉ye:=λq=>n _ (OY Obj.data (ON (e.symm.trans (hT a (V6 q)))))
theorem kC (hT:TabsAt h) {a:Addr} {m:Str->Option Value} (n:h.Ns a m):(FA h).Ns a m:=match n with
 |⟨o,es,ep,e,d,r⟩=>⟨o,es,ep,hideAll_get _ e (kD hT e λvs q=>nomatch d.symm.trans q),d,r⟩
theorem zN {T:i7} {U:List Addr} {bad:Addr->Prop} {vs:List Value} {xs:List Int} (x:IntsAre vs xs):z1 T U bad h (xs.map .int) vs:=by
 induction x with
 |nil=>exact .nil
 |cons _ _ _ ih=>exact .cons _ _ _ _ rfl (.G4 _ _ (.int _ _)) ih
theorem zw {s:Shared} (th:TH (X9 prog w K (FA s.heap)) pg) (hX:K.In s.heap) (hT:TabsAt s.heap) (hc1:codeHdIn K 571 569=true) (hc2:codeHdIn K 578 574=true) (hg:s.gens= #[]) {l:Addr} {vs:List Value} {xs:List Int} (hl:s.heap.get? l=some {cls:=.type "list",data:=.seq vs.toArray}) (hI:IntsAre vs xs) {n:Nat} (hn:n≤290)
 (run:((b9 pg n).run 58 [.lst (xs.map .int)] []).c4 (λv J=>v=.bool true) λJ J=>False) {E:Value->Shared->Prop}:
 wpAny (model prog w) callerA (call (.ref 598) [.ref l]) (λv s'=>v=.bool true∧OldK s.heap s'.heap∧s'.os=s.os∧AllBare s'.gens) E s:=by
 have bt:∀a,k9 (X9 prog w K (FA s.heap)) ⟨[],[]⟩ [] a->a∈ye:=λa q=>q.elim nofun λq=>q.elim nofun λq=>q.elim nofun id
 have rel:d9 (X9 prog w K (FA s.heap)) ⟨[],[]⟩ [] [] s.heap:=⟨rfl,List.nodup_nil,(λi o a e=>nomatch e),λa o e=>of_hideAll _ e,λa q=>hideAll_none _ (bt a q),⟨(λa q=>nomatch q),λa q=>nomatch q⟩,λP hP=>⟨#[],hT P (V6 hP),trivial,(λpos cv e=>nomatch e)⟩⟩
 have ar:Ar (X9 prog w K (FA s.heap)) ⟨[],[]⟩ callerA n s.heap:=⟨rfl,OV (Pa (Nat.mul_le_mul_left 2 hn) _) (by decide),OV (Pa (Nat.mul_le_mul_left 20 hn) _) (by decide),[],rfl,trivial,(λJ q=>nomatch q)⟩
 refine SRun.call (Jo th n).run rel ar (k:=58) rfl (.cons _ _ [] [] rfl (.jo _ _ vs l rfl rfl ⟨_,hl⟩ (λq=>kD hT hl (λvs z=>nomatch z) (bt l q)) (zN hI)) .nil) (R.c4.mono run (λv c7 e u s' d7 o hv J=>?_) λJ J q=>q.elim)
 subst e
 refine⟨VR.H7 (G:=λu=>u=.bool true) hv rfl,⟨λb ob e=>?_,o.ext.there⟩,o.ext.os,.of_eq (o.ext.gens.trans hg)⟩
 by_cases hb:b∈ye
 ·have ht:=ON (e.symm.trans (hT b (V6 hb)))
  subst ht
  exact match o.rel.tabs b hb with|⟨ps,e',_,_⟩=>.inr (.inl ⟨(OW hb).elim (λz=>by subst z;exact((codeHd_of_K hX hc1).tab e).isCodeTable) λz=>by
   rw[List.mem_singleton]at z
   subst z;exact((codeHd_of_K hX hc2).tab e).isCodeTable,rfl,#[],ps,rfl,by rw[e'];simp⟩)
 ·exact .inl (o.ext.off b ob e λq=>q.elim nofun λq=>q.elim nofun hb)
end
end Mine
end
section
namespace Mine.Z
variable {α β:Type} {P:Pg} {n:Nat} {r:Ev} {m m':Fr} {Y c7 u3:Hp} {v:V} {e:X} {es:List X} {vs:List V}
section
variable {t:Txt} {w:V} {k:Nat} {s:S} {ss:List S}
theorem v8 {x:R α} {f:α->Hp->R β} {a:α} {y:R β} (h:x=.ok a c7) (k:f a c7=y):x.bind f=y:=h▸k
theorem Ed {x:R α} {f:α->Hp->R β} (h:x=.exc t c7):x.bind f=.exc t c7:=h▸rfl
theorem CP (h:d6 m k=some v) (h':Y4 v=some w):s7 P r m (.OK k) Y=.ok w Y:=by
 show og (d6 m k) (λv=>b8 89 (Y4 v) Y) (b8 90 (d6 P.glob k) Y)=_
 rw[h]
 show b8 89 (Y4 v) Y=_
 rw[h'];rfl
theorem i5 (h:r.ev m e Y=.ok v c7) (hf:freeze v=some w) (hs:G7 r m es c7=.ok vs u3):G7 r m (e::es) Y=.ok (w::vs) u3:=
 v8 h (v8 (a:=w) (c7:=c7) (by rw[hf];rfl) (v8 hs rfl))
theorem Kt (he:G7 r m es Y=.ok vs c7) (hr:r.run k vs c7=.ok v u3):AO P r m es (.fn k) Y=.ok v u3:=by
 show cY ((G7 r m es Y).bind λvs Y=>r.run k vs Y) _=_
 rw[v8 he hr];rfl
theorem HG (he:G7 r m es Y=.ok vs c7) (hr:r.run k vs c7=.exc t u3):AO P r m es (.fn k) Y=.exc t u3:=by
 show cY ((G7 r m es Y).bind λvs Y=>r.run k vs Y) _=_
 rw[v8 he hr];rfl
theorem DZ (hf:r.ev m e Y=.ok (.fn k) Y) (he:G7 r m es Y=.ok vs c7) (hr:r.run k vs c7=.ok v u3):s7 P r m (.call e es) Y=.ok v u3:=v8 hf (Kt he hr)
theorem call_exc (hf:r.ev m e Y=.ok (.fn k) Y) (he:G7 r m es Y=.ok vs c7) (hr:r.run k vs c7=.exc t u3):s7 P r m (.call e es) Y=.exc t u3:=v8 hf (HG he hr)
theorem D4 {x:Nat} (h:freeze v=some w):store P r (.OK x) v m Y=.ok (putN m x w) Y:=by
 show(b8 120 (freeze v) Y).bind _=_
 rw[h];rfl
theorem m3 {t:T} (h:r.ev m e Y=.ok v c7) (hs:store P r t v m c7=.ok m' u3):g8 P r m (.assign t e) Y=.ok (.next,m') u3:=v8 h (v8 hs rfl)
theorem az {t:T} {w:Txt} (h:r.ev m e Y=.exc w c7):g8 P r m (.assign t e) Y=.exc w c7:=Ed h
theorem c6 (h:g8 P r m s Y=.ok (.next,m') c7):a8 P r m (s::ss) Y=a8 P r m' ss c7:=v8 h rfl
theorem aL {w:Txt} (h:g8 P r m s Y=.exc w c7):a8 P r m (s::ss) Y=.exc w c7:=Ed h
theorem t8 {fd:Fd} {p:Fl×Fr} (h1:P.fns[k]? =some fd) (h2:U6 fd vs=some m) (h:(b9 P n).Y9 m fd.body Y=.ok p c7):(b9 P (n+1)).run k vs Y=.ok (IX p.1) c7:=by
 show(b8 80 (P.fns[k]?) Y).bind _=_
 rw[h1]
 show(b8 81 (U6 fd vs) Y).bind _=_
 rw[h2]
 exact v8 (a:=m) (c7:=Y) rfl (v8 h rfl)
theorem aN {fd:Fd} {w:Txt} (h1:P.fns[k]? =some fd) (h2:U6 fd vs=some m) (h:(b9 P n).Y9 m fd.body Y=.exc w c7):(b9 P (n+1)).run k vs Y=.exc w c7:=by
 show(b8 80 (P.fns[k]?) Y).bind _=_
 rw[h1]
 show(b8 81 (U6 fd vs) Y).bind _=_
 rw[h2]
 exact v8 (a:=m) (c7:=Y) rfl (Ed h)
theorem Cm {a b:List S}:∀{m Y},a8 P r m (a++b) Y=(a8 P r m a Y).bind λp Y=>gT p (λm Y=>a8 P r m b Y) Y:=by
 induction a with
 |nil=>exact rfl
 |cons s a ih=>
  intro m Y
  show(g8 P r m s Y).bind _=((g8 P r m s Y).bind _).bind _
  induction g8 P r m s Y with
  |no w=>rfl
  |exc w Y=>rfl
  |ok q Y=>
   induction q with
   |mk f m'=>
    induction f with
    |ret v=>rfl
    |next=>exact ih
theorem z4 {b:List S} (j:Nat) (h:a8 P r m (b.take j) Y=.ok (.next,m') c7):a8 P r m b Y=a8 P r m' (b.drop j) c7:=by
 have e:=Cm (P:=P) (r:=r) (a:=b.take j) (b:=b.drop j) (m:=m) (Y:=Y)
 rw[List.take_append_drop]at e
 exact e.trans (v8 h rfl)
end
theorem e8 {α β:Type} {f h:α->β} {l:List α} (e:l.map f=l.foldr (λa r=>h a::r) []) {a:α} (ha:a∈l):f a=h a:=by
 induction l with
 |nil=>exact nomatch ha
 |cons x l ih=>exact(OW ha).elim (λq=>q▸(List.cons.inj (e:f x::l.map f=h x::_)).1) (ih (List.cons.inj (e:f x::l.map f=h x::_)).2)
theorem M1 {β:Type} {f h:Nat->β} (e:(List.range 6).map f=(List.range 6).foldr (λa r=>h a::r) []) {d:Nat} (hd:d < 6):f d=h d:=e8 e (Py hd)
noncomputable def JZ:Txt:=[112,97,116,104]
noncomputable def MF:Txt:=[112,97,114,101,110,116]
noncomputable def MH:Txt:=[111,98,106,101,99,116]
noncomputable def MG:Txt:=[111,119,110]
noncomputable def MJ:Txt:=[103,111,116]
noncomputable def MI:Txt:=[110,111]
noncomputable def ES:Txt:=[108,97,115,116]
noncomputable def Hn:Txt:=[110,111,116,101,115]
noncomputable def JY:Txt:=[122,97,112,115]
noncomputable def m0:Txt->Option V:=(List.range 19).foldl (λf i=>t9 f ES (some (.int (Int.ofNat i+1)))) (t9 (t9 (t9 (λJ=>none) ES (some (.int 0))) Hn (some (.loc 2))) JY (some (.loc 3)))
noncomputable def r8 (a:Nat):List Nat:=[a,0,0,0,0,0,0,0]
noncomputable def vw (par ch pr:Nat):V:=.bytes (r8 par++r8 0++r8 ch++r8 pr++r8 0++r8 0++r8 0++r8 0++r8 0++r8 0)
noncomputable def GK:List (Int×V):=[(4,vw 0 2 3),(7,vw 4 5 6),(10,vw 7 8 9),(13,vw 10 11 12),(16,vw 7 14 15),(19,vw 4 17 18)]
noncomputable def Jd:List (Int×V):=[(1,.loc 4),(2,.loc 5),(3,.loc 6),(5,.loc 9),(6,.loc 10),(8,.loc 12),(9,.loc 13),(11,.loc 15),(12,.loc 16),(14,.loc 18),(15,.loc 19),(17,.loc 21),(18,.loc 22)]
noncomputable def y0 (k:Txt) (v:Int):Txt->Option V:=t9 (λJ=>none) k (some (.int v))
noncomputable def fV (path:Txt) (par obj:Int) (a b k:Nat):O:=.map (t9 (t9 (t9 (bc [(JZ,.str path),(MF,.int par),(MH,.int obj)]) MG (some (.loc a))) MJ (some (.loc b))) MI (some (.loc k)))
noncomputable def H (p o g:Nat->O) (k:Nat->Nat) (t:List O):Hp:=
 .map m0::.inst 0 0::.dB GK::.dB Jd::.map (y0 [114,111,111,116] 4)::.map (t9 (y0 [97] 7) [101] (some (.int 19)))::
 p 0::fV [] (-1) 4 24 25 (k 0)::.list [.loc 7,.loc 11,.loc 14,.loc 17,.loc 20,.loc 23]::.map (t9 (y0 [98] 10) [100] (some (.int 16)))::
 p 1::fV [97] 0 7 27 28 (k 1)::.map (y0 [99] 13)::
 p 2::fV [97,47,98] 1 10 30 31 (k 2)::.emp::
 p 3::fV [97,47,98,47,99] 2 13 33 34 (k 3)::.emp::
 p 4::fV [97,47,100] 1 16 36 37 (k 4)::.emp::
 p 5::fV [101] 0 19 39 40 (k 5)::
 o 0::g 0::.list []::o 1::g 1::.list []::o 2::g 2::.list []::o 3::g 3::.list []::o 4::g 4::.list []::o 5::g 5::.list []::t
noncomputable def fQ:List Txt:=[[112,97,99,107,101,100],[99,111,112,105,101,115],[114,101,99,111,114,100],[114,101,97,100,111,110,108,121],[100,101,100,117,112],[115,117,109,109,101,100],[97,58,98],[110,111,110,101],[58,97,98]]
noncomputable def bO:List V:=[(.str [111,102,102]),(.str [111,110]),(.str [122,108,101]),(.str [108,122,52]),(.str [109,105,120]),(.str [103,122,105,112]),(.int 0),(.int 1),(.int 2),(.int 3),(.int 4),(.int 8),(.int 24),(.int 4096),(.int 8192),(.int 4294967295),(.int 4294967296),(.bool true)]
noncomputable def Iy (xs:List V):Fr:=[(135,.lst xs),(41,.loc 1),(15,.loc 8),(14,.str [101]),(29,.int 0),(138,.str [101]),(34,.loc 23),(56,.lst (fQ.map .str)),(140,.lst bO)]
noncomputable def H0:Hp:=H (λJ=>.emp) (λJ=>.emp) (λJ=>.emp) (λd=>26+3 * d) []
theorem xC (n:Nat) (xs:List V):a8 pg (b9 pg (n+60)) [(135,.lst xs)] ((I7.body.drop 1).take 6) []=.ok (.next,Iy xs) H0:=by rfl'
noncomputable def ob (d:Nat):Int:=Int.ofNat (3 * d+4)
noncomputable def zp (d:Nat):Int:=Int.ofNat (3 * d+3)
noncomputable def rl (d:Nat):Nat:=Nat.rec 7 (λd J=>3 * d+11) d
noncomputable def ol (d:Nat):Nat:=24+3 * d
noncomputable def gq (d:Nat):Nat:=25+3 * d
noncomputable def Bu (d:Nat):Txt:=[[],[97],[97,47,98],[97,47,98,47,99],[97,47,100],[101]].getD d []
noncomputable def Fo (d:Nat):Fr:=[(29,.int ([0,4,7,10,7,4].getD d 0)),(30,.int 0),(31,.int (Int.ofNat (3 * d+2))),(32,.int (zp d)),(33,.int 0),(35,.int 0),(36,.int 0),(37,.int 0),(38,.int 0),(39,.int 0)]
variable {t:List O} {k:Nat->Nat} {p o g:Nat->O} {d:Nat}
section
variable (n:Nat)
theorem LL (hd:d < 6):(b9 pg (n+20)).run 15 [.loc 1,.int (ob d)] (H p o g k t)=.ok (.obj 1 (Fo d)) (H p o g k t):=M1 (f:=λd=>(b9 pg (n+20)).run 15 [.loc 1,.int (ob d)] (H p o g k t)) (h:=λd=>.ok (.obj 1 (Fo d)) (H p o g k t)) (by rfl') hd
theorem CA (hd:d < 6):(b9 pg (n+35)).run 24 [.loc 1,.int (ob d)] (H p o g k t)=.ok (.str (Bu d)) (H p o g k t):=M1 (f:=λd=>(b9 pg (n+35)).run 24 [.loc 1,.int (ob d)] (H p o g k t)) (h:=λd=>.ok (.str (Bu d)) (H p o g k t)) (by rfl') hd
end
noncomputable abbrev y3:Txt:=[36,105,110,104,101,114,105,116]
noncomputable abbrev u4:Txt:=[36,114,101,99,118,100]
noncomputable def put {α:Type} (p:Nat->α) (d:Nat) (x:α):Nat->α:=λi=>bif Nat.beq i d then x else p i
theorem w4 {α:Type} {p:Nat->α} {d:Nat} {x:α}:put p d x d=x:=by
 show(bif Nat.beq d d then x else p d)=x
 rw[Nat.beq_refl];rfl
theorem K2 {α:Type} {p:Nat->α} {d e:Nat} {x:α} (h:e≠d):put p d x e=p e:=by
 show(bif Nat.beq e d then x else p e)=p e
 induction q:Nat.beq e d with
 |false=>rfl
 |true=>exact absurd (Pc q) h
theorem o9 {α:Type} {p:Nat->α} {d:Nat}:put p d (p d)=p:=funext λe=>(Nat.decEq e d).byCases (λh=>h▸w4) λh=>K2 h
theorem dN {α:Type} {p:Nat->α} {d:Nat} {x y:α}:put (put p d x) d y=put p d y:=funext λe=>(Nat.decEq e d).byCases (λh=>h▸w4.trans w4.symm) λh=>(K2 h).trans ((K2 h).trans (K2 h).symm)
theorem G8 (a:Txt):r5 a a=true:=Mine.D1.mpr rfl
theorem lU {a b:Txt} (h:a≠b):r5 a b=false:=by
 cases e:r5 a b with
 |false=>rfl
 |true=>exact absurd (Mine.D1.mp e) h
theorem u5 {f:Txt->Option V} {a:Txt} {x:Option V}:t9 f a x a=x:=by
 show(bif r5 a a then x else f a)=x
 rw[G8];rfl
theorem l0 {f:Txt->Option V} {a b:Txt} {x:Option V} (h:a≠b):t9 f a x b=f b:=by
 show(bif r5 a b then x else f b)=f b
 rw[lU h];rfl
theorem E6 {f:Txt->Option V} {a:Txt}:t9 f a (f a)=f:=funext λb=>(inferInstance:Decidable (a=b)).byCases (λh=>h▸u5) l0
theorem BL {f:Txt->Option V} {a:Txt} {x y:Option V}:t9 (t9 f a x) a y=t9 f a y:=funext λb=>(inferInstance:Decidable (a=b)).byCases (λh=>h▸u5.trans u5.symm) λh=>(l0 h).trans ((l0 h).trans (l0 h).symm)
noncomputable def fo:O->Txt->Option V
 |.map f=>f
 |_=>λJ=>none
noncomputable def A1 (x:O) (k:Txt) (v:V):O:=.map (t9 (fo x) k (some v))
noncomputable def cut (x:O) (k:Txt):O:=bif c3 (fo x k)then .map (t9 (fo x) k none)else x
inductive A6:O->Prop
 |emp:A6 .emp
 |map (f:Txt->Option V) (h:∀q v,f q=some v->∃j,v=.int j):A6 (.map f)
theorem A6.el {x:O} (h:A6 x) {key:Txt} {G:O->Prop} (h1:G .emp) (h2:∀f,G (.map (t9 f key none))) (h3:∀f j,G (.map (t9 f key (some (.int j))))):G x:=by
 induction h with
 |emp=>exact h1
 |map f h=>
  have e:t9 f key (f key)=f:=E6
  rw[←e]
  induction q:f key with
  |none=>exact h2 f
  |some v=>exact(h key v q).elim λj hj=>hj▸h3 f j
noncomputable def V7:List Txt:=[[97,58,98],[99,111,112,105,101,115],[100,101,100,117,112],[112,97,99,107,101,100],[114,101,97,100,111,110,108,121],[114,101,99,111,114,100],[115,117,109,109,101,100]]
noncomputable def tR:Txt:=[115,110,97,112,100,105,114]
noncomputable def tQ:Txt:=[115,121,110,99]
noncomputable def N6:List Txt:=V7++[tR,tQ]
noncomputable def Eo (l:List Txt):List Txt:=l++(l.map (· ++y3)++l.map (· ++u4))
section
noncomputable def B8 (l1:List α) (l2:List β):List (α×β):=l1.flatMap λa=>l2.map λb=>(a,b)
theorem fY {l1:List α} {l2:List β} {a:α} {b:β} (h1:a∈l1) (h2:b∈l2):(a,b)∈B8 l1 l2:=List.mem_flatMap.mpr ⟨a,h1,List.mem_map.mpr ⟨b,h2,rfl⟩⟩
theorem Y3 {γ:Type} {f h:α->β->γ} {l1:List α} {l2:List β} (e:(B8 l1 l2).map (λq=>f q.1 q.2)=(B8 l1 l2).foldr (λq r=>h q.1 q.2::r) []) {a:α} {b:β} (h1:a∈l1) (h2:b∈l2):f a b=h a b:=e8 (f:=λq:α×β=>f q.1 q.2) (h:=λq=>h q.1 q.2) e (fY h1 h2)
end
noncomputable abbrev D6:List Nat:=List.range 6
variable {i:Int}
section
variable (n:Nat) (f:Txt->Option V) {key:Txt} {j:Int}
noncomputable abbrev vY (n:Nat) (Y:Hp) (d:Nat) (key:Txt):R V:=(b9 pg (n+10)).run 5 [.loc 1,.int (zp d),.str key] Y
theorem Ab (hd:d < 6) (hk:key∈Eo N6) (hc:A6 (p d)):vY n (H p o g k t) d key=.ok ((fo (p d) key).getD .none) (H p o g k t):=by
 have hd:=Py hd
 have go:∀x,A6 x->vY n (H (put p d x) o g k t) d key=.ok ((fo x key).getD .none) (H (put p d x) o g k t):=λx hx=>hx.el (key:=key) (G:=λx=>vY n (H (put p d x) o g k t) d key=.ok ((fo x key).getD .none) (H (put p d x) o g k t))
  (Y3 (f:=λd key=>vY n (H (put p d .emp) o g k t) d key) (h:=λd key=>.ok .none (H (put p d .emp) o g k t)) (by rfl') hd hk)
  (λf=>Y3 (f:=λd key=>vY n (H (put p d (.map (t9 f key none))) o g k t) d key) (h:=λd key=>.ok .none (H (put p d (.map (t9 f key none))) o g k t)) (by rfl') hd hk |>.trans (by rw[show(fo (.map (t9 f key none)) key)=none from u5];rfl))
  (λf j=>Y3 (f:=λd key=>vY n (H (put p d (.map (t9 f key (some (.int j))))) o g k t) d key) (h:=λd key=>.ok (.int j) (H (put p d (.map (t9 f key (some (.int j))))) o g k t)) (by rfl') hd hk |>.trans (by rw[show(fo (.map (t9 f key (some (.int j)))) key)=some (.int j)from u5];rfl))
 have q:=go (p d) hc
 rw[o9]at q
 exact q
noncomputable abbrev Oq (i:Int):Bool:=decide (0≤i)&&decide (i < 18446744073709551616)
noncomputable abbrev Mu (n:Nat) (Y:Hp) (d:Nat) (key:Txt) (i:Int):R V:=(b9 pg (n+10)).run 6 [.loc 1,.int (zp d),.str key,.int i] Y
theorem qU (hd:d < 6) (hk:key∈Eo V7) (hc:A6 (p d)) (hi:a8 pg (b9 pg (n+8)) [(6,.loc 1),(13,.int (zp d)),(14,.str key),(16,.int i)] (o6.body.take 1) (H p o g k t)=.ok (.next,[(6,.loc 1),(13,.int (zp d)),(14,.str key),(16,.int i)]) (H p o g k t)):
 Mu n (H p o g k t) d key i=.ok .none (H (put p d (A1 (p d) key (.int i))) o g k t):=by
 have hd:=Py hd
 have go:∀x,A6 x->a8 pg (b9 pg (n+8)) [(6,.loc 1),(13,.int (zp d)),(14,.str key),(16,.int i)] (o6.body.drop 1) (H (put p d x) o g k t)=.ok (.next,[(6,.loc 1),(13,.int (zp d)),(14,.str key),(16,.int i)]) (H (put p d (A1 x key (.int i))) o g k t):=λx hx=>by
  induction hx with
  |emp=>exact Y3 (f:=λd key=>a8 pg (b9 pg (n+8)) [(6,.loc 1),(13,.int (zp d)),(14,.str key),(16,.int i)] (o6.body.drop 1) (H (put p d .emp) o g k t)) (h:=λd key=>.ok (.next,[(6,.loc 1),(13,.int (zp d)),(14,.str key),(16,.int i)]) (H (put p d (A1 .emp key (.int i))) o g k t)) (by rfl') hd hk
  |map f=>exact Y3 (f:=λd key=>a8 pg (b9 pg (n+8)) [(6,.loc 1),(13,.int (zp d)),(14,.str key),(16,.int i)] (o6.body.drop 1) (H (put p d (.map f)) o g k t)) (h:=λd key=>.ok (.next,[(6,.loc 1),(13,.int (zp d)),(14,.str key),(16,.int i)]) (H (put p d (A1 (.map f) key (.int i))) o g k t)) (by rfl') hd hk
 have q:=go (p d) hc
 rw[o9]at q
 exact t8 (n:=n+9) (fd:=o6) rfl rfl ((z4 1 hi).trans q)
noncomputable abbrev wc (n:Nat) (Y:Hp) (d:Nat) (key:Txt):R V:=(b9 pg (n+15)).run 33 [.loc 1,.int (zp d),.str key] Y
theorem J6 (hd:d < 6) (hk:key∈Eo V7) (hc:A6 (p d)):wc n (H p o g k t) d key=.ok (.bool (c3 (fo (p d) key))) (H (put p d (cut (p d) key)) o g k t):=by
 have hd:=Py hd
 have go:∀x,A6 x->wc n (H (put p d x) o g k t) d key=.ok (.bool (c3 (fo x key))) (H (put p d (cut x key)) o g k t):=λx hx=>hx.el (key:=key) (G:=λx=>wc n (H (put p d x) o g k t) d key=.ok (.bool (c3 (fo x key))) (H (put p d (cut x key)) o g k t))
  (Y3 (f:=λd key=>wc n (H (put p d .emp) o g k t) d key) (h:=λd key=>.ok (.bool (c3 (fo .emp key))) (H (put p d (cut .emp key)) o g k t)) (by rfl') hd hk)
  (λf=>Y3 (f:=λd key=>wc n (H (put p d (.map (t9 f key none))) o g k t) d key) (h:=λd key=>.ok (.bool (c3 (fo (.map (t9 f key none)) key))) (H (put p d (cut (.map (t9 f key none)) key)) o g k t)) (by rfl') hd hk)
  (λf j=>Y3 (f:=λd key=>wc n (H (put p d (.map (t9 f key (some (.int j))))) o g k t) d key) (h:=λd key=>.ok (.bool (c3 (fo (.map (t9 f key (some (.int j)))) key))) (H (put p d (cut (.map (t9 f key (some (.int j)))) key)) o g k t)) (by rfl') hd hk)
 have q:=go (p d) hc
 rw[o9]at q
 exact q
end
noncomputable def BW:V:=.str [111,102,102]
noncomputable def NC:V:=.str [111,110]
noncomputable def N9:List (Txt×List V):=[
 ([112,97,99,107,101,100],[BW,.str [122,108,101],.str [108,122,106,98],.str [108,122,52]]),
 ([99,111,112,105,101,115],[.int 1,.int 2,.int 3]),
 ([114,101,99,111,114,100],[.int 8,.int 16,.int 32,.int 64,.int 128,.int 256,.int 512,.int 1024,.int 2048,.int 4096]),
 ([114,101,97,100,111,110,108,121],[BW,NC]),
 ([100,101,100,117,112],[BW,NC]),
 ([115,117,109,109,101,100],[BW,.str [102,108,101,116,99,104,101,114,50],.str [102,108,101,116,99,104,101,114,52],.str [109,105,120]]),
 ([97,58,98],[]),([110,111,110,101],[]),([58,97,98],[])]
noncomputable def NV:List (Txt×V):=N9.flatMap λq=>(q.2++bO).map λv=>(q.1,v)
theorem JB {q:Txt×List V} {v:V} (hq:q∈N9) (hv:v∈q.2++bO):(q.1,v)∈NV:=List.mem_flatMap.mpr ⟨q,hq,List.mem_map.mpr ⟨v,hv,rfl⟩⟩
noncomputable def B6 (nm:Txt):Bool:=r5 nm [110,111,110,101]|| r5 nm [58,97,98]
noncomputable def I4 (nm:Txt):Txt:=[110,111,32,115,117,99,104,32,112,114,111,112,101,114,116,121,58,32]++nm
noncomputable def il (nm:Txt):Txt:=bif B6 nm then I4 nm else[110,111,32,118,97,108,117,101,32,111,102,32]++nm
noncomputable def Oo:R V->Option Int
 |.ok v _=>z5 v
 |_=>none
noncomputable def iI (q:Txt×V):Option Int:=Oo ((b9 pg 60).run 31 [.str q.1,q.2] [])
noncomputable def isQ (v:V):Bool:=((z5 v).map λJ=>()).isSome ||((r6 v).map λJ=>()).isSome
structure Acc (nm:Txt) (v:V) (i:Int):Prop where
 key:nm∈V7
 mem:(nm,v)∈NV
 en:iI (nm,v)=some i
 num:∀n Y,(b9 pg (n+60)).run 31 [.str nm,v] Y=.ok (.int i) Y
 ref:∀n Y,(b9 pg (n+60)).run 50 [.str nm,v] Y=.ok (.str []) Y
 val:∀n Y,(b9 pg (n+60)).run 32 [.str nm,.int i] Y=.ok v Y
 fit:∀n Y d key,a8 pg (b9 pg (n+8)) [(6,.loc 1),(13,.int d),(14,.str key),(16,.int i)] (o6.body.take 1) Y=.ok (.next,[(6,.loc 1),(13,.int d),(14,.str key),(16,.int i)]) Y
 q:isQ v=true
structure Ma (nm:Txt) (v:V):Prop where
 num:∀n Y,(b9 pg (n+60)).run 31 [.str nm,v] Y=.exc (il nm) Y
 ref:∀n Y,(b9 pg (n+60)).run 50 [.str nm,v] Y=.ok (.str (il nm)) Y
structure Pv (v:V):Prop where
 rd:Y4 v=some v
 fz:freeze v=some v
 qt:quiet v=true
theorem lk {l:List Txt} {x:Txt} (h:l.any (r5 x)=true):x∈l:=match List.any_eq_true.mp h with|⟨_,hy,e⟩=>Mine.D1.mp e▸hy
theorem CH (n:Nat) (Y:Hp):NV.map (λq=>(b9 pg (n+60)).run 31 [.str q.1,q.2] Y)=NV.foldr (λq r=>(iI q).elim (.exc (il q.1) Y) (λi=>.ok (.int i) Y)::r) []:=by rfl'
theorem yW (n:Nat) (Y:Hp) {q:Txt×V} (h:q∈NV):(b9 pg (n+60)).run 31 [.str q.1,q.2] Y=(iI q).elim (.exc (il q.1) Y) λi=>.ok (.int i) Y:=e8 (CH n Y) h
theorem GI (n:Nat) (Y:Hp) {q:Txt×V} (h:q∈NV):(b9 pg (n+60)).run 50 [.str q.1,q.2] Y=.ok (.str ((iI q).elim (il q.1) λJ=>[])) Y:=e8 (β:=R V) (a:=q) (f:=λq=>(b9 pg (n+60)).run 50 [.str q.1,q.2] Y) (h:=λq=>.ok (.str ((iI q).elim (il q.1) λJ=>[])) Y) (by rfl') h
theorem GH (n:Nat) (Y:Hp) {q:Txt×V} (h:q∈NV):(iI q).elim (.ok q.2 Y) (λi=>(b9 pg (n+60)).run 32 [.str q.1,.int i] Y)=.ok q.2 Y:=e8 (β:=R V) (a:=q) (f:=λq=>(iI q).elim (.ok q.2 Y) λi=>(b9 pg (n+60)).run 32 [.str q.1,.int i] Y) (h:=λq=>.ok q.2 Y) (by rfl') h
theorem GJ (n:Nat) (Y:Hp) (d:Int) (key:Txt) {q:Txt×V} (h:q∈NV):(iI q).elim none (λi=>some (a8 pg (b9 pg (n+8)) [(6,.loc 1),(13,.int d),(14,.str key),(16,.int i)] (o6.body.take 1) Y))=(iI q).map λi=>.ok (.next,[(6,.loc 1),(13,.int d),(14,.str key),(16,.int i)]) Y:=
 e8 (β:=Option (R (Fl×Fr))) (a:=q) (f:=λq=>(iI q).elim none (λi=>some (a8 pg (b9 pg (n+8)) [(6,.loc 1),(13,.int d),(14,.str key),(16,.int i)] (o6.body.take 1) Y))) (h:=λq=>(iI q).map λi=>.ok (.next,[(6,.loc 1),(13,.int d),(14,.str key),(16,.int i)]) Y) (by rfl') h
theorem CI:(NV.all λq=>(iI q).elim true λi=>V7.any (r5 q.1)&&isQ q.2)=true:=by rfl'
theorem EI {q:Txt×V} (h:q∈NV):Pv q.2:=⟨e8 (a:=q) (f:=λq:Txt×V=>Y4 q.2) (h:=λq=>some q.2) (by rfl') h,e8 (a:=q) (f:=λq:Txt×V=>freeze q.2) (h:=λq=>some q.2) (by rfl') h,e8 (a:=q) (f:=λq:Txt×V=>quiet q.2) (h:=λq=>true) (by rfl') h⟩
theorem fN {nm:Txt} {v:V} (h:(nm,v)∈NV):(∃i,Acc nm v i)∨Ma nm v:=by
 have h1:=λn Y=>yW n Y h
 have h2:=λn Y=>GI n Y h
 have h3:=λn Y=>GH n Y h
 have h4:=λn Y d key=>GJ n Y d key h
 have h5:=List.all_eq_true.mp CI _ h
 cases e:iI (nm,v)with
 |none=>rw[e]at h1 h2;exact .inr ⟨h1,h2⟩
 |some i=>rw[e]at h1 h2 h3 h4 h5;exact .inl ⟨i,lk (a7 h5 λa J=>a),h,e,h1,h2,h3,λn Y d key=>ON (h4 n Y d key),a7 h5 λJ a=>a⟩
noncomputable def I6 (nm:Txt):V:=match(b9 pg 60).run 30 [.str nm] []with
 |.ok v _=>v
 |_=>.none
noncomputable def NM:List Txt:=N9.map Prod.fst
theorem oA (n:Nat) (Y:Hp) {nm:Txt} (h:nm∈NM):(b9 pg (n+50)).run 30 [.str nm] Y=bif B6 nm then .exc (I4 nm) Y else .ok (I6 nm) Y:=e8 (β:=R V) (a:=nm) (f:=λnm=>(b9 pg (n+50)).run 30 [.str nm] Y) (h:=λnm=>bif B6 nm then .exc (I4 nm) Y else .ok (I6 nm) Y) (by rfl') h
theorem CM:(NM.all λa=>B6 a || V7.any (r5 a))=true:=by rfl'
theorem fP {nm:Txt} (h:nm∈NM) (hb:B6 nm=false):nm∈V7:=lk ((Bool.or_eq_true_iff.mp (List.all_eq_true.mp CM nm h)).elim (λq=>Bool.noConfusion (hb.symm.trans q)) id)
noncomputable def LU (l:List V):V:=bif l.isEmpty then .g6 []else .lst l
theorem KY (n:Nat) (Y:Hp) {q:Txt×List V} (h:q∈N9):(b9 pg (n+60)).run 48 [.str q.1] Y=.ok (LU q.2) Y:=e8 (a:=q) (f:=λq:Txt×List V=>(b9 pg (n+60)).run 48 [.str q.1] Y) (h:=λq=>.ok (LU q.2) Y) (by rfl') h
variable {ov:V} {c:Nat}
section
variable {t:Txt} {w:V} {o:X} {k mm:Nat} {s:S} {ss:List S} {u:Unit}
theorem CS (ho:r.ev m o Y=.ok ov Y) (hc:gU ov Y=some c) (hm:ag P c mm=some k) (hb:pO P ov mm Y=some u) (he:G7 r m es Y=.ok vs c7) (hr:r.run k (ov::vs) c7=.ok v u3):s7 P r m (.l5 o mm es) Y=.ok v u3:=by
 refine v8 ho ?_
 show og (gU ov Y) _ _=_
 rw[hc]
 show(b8 93 (ag P c mm) Y).bind _=_
 rw[hm]
 show(b8 92 (pO P ov mm Y) Y).bind _=_
 rw[hb]
 exact v8 (a:=u) (c7:=Y) rfl (v8 he hr)
theorem I2 (h:d6 m k=some v) (h':Y4 v=some w):(b9 P (n+1)).ev m (.OK k) Y=.ok w Y:=CP (r:=b9 P n) h h'
theorem j0 (hf:(b9 P n).ev m e Y=.ok (.fn k) Y) (he:G7 (b9 P n) m es Y=.ok vs c7) (hr:(b9 P n).run k vs c7=.ok v u3):(b9 P (n+1)).ev m (.call e es) Y=.ok v u3:=DZ hf he hr
theorem U5 (hf:(b9 P n).ev m e Y=.ok (.fn k) Y) (he:G7 (b9 P n) m es Y=.ok vs c7) (hr:(b9 P n).run k vs c7=.exc t u3):(b9 P (n+1)).ev m (.call e es) Y=.exc t u3:=call_exc hf he hr
theorem fX (ho:(b9 P n).ev m o Y=.ok ov Y) (hc:gU ov Y=some c) (hm:ag P c mm=some k) (hb:pO P ov mm Y=some u) (he:G7 (b9 P n) m es Y=.ok vs c7) (hr:(b9 P n).run k (ov::vs) c7=.ok v u3):(b9 P (n+1)).ev m (.l5 o mm es) Y=.ok v u3:=CS ho hc hm hb he hr
theorem C3 (h:r.ev m e Y=.ok v c7):g8 P r m (.expr e) Y=.ok (.next,m) c7:=v8 h rfl
theorem pa (h:r.ev m e Y=.exc t c7):g8 P r m (.expr e) Y=.exc t c7:=Ed h
theorem g5:a8 P r m [] Y=.ok (.next,m) Y:=rfl
theorem B2 {z:V} (h1:ownOf e m=none) (h:r.ev m e Y=.ok z c7) (hl:dA z=false):g8 P r m (.ret e) Y=.ok (.ret z,m) c7:=by
 show og (ownOf e m) _ ((r.ev m e Y).bind λv Y=>bif dA v then .no 149 else .ok (Fl.ret v,m) Y)=_
 rw[h1]
 refine v8 h ?_
 rw[hl];rfl
theorem s9 {z:V} (h:g8 P r m s Y=.ok (.ret z,m') c7):a8 P r m (s::ss) Y=.ok (.ret z,m') c7:=v8 h rfl
end
variable {nm:Txt}
section
noncomputable def IZ {α:Type} {f h:Txt->α} {nm:Txt} (hk:nm∈V7) (e:V7.map f=V7.foldr (λa r=>h a::r) []):f nm=h nm:=e8 e hk
theorem Dk (hk:nm∈V7):nm∈Eo V7:=OQ _ hk
theorem Dj (hk:nm∈V7):(nm++y3)∈Eo V7:=OS _ (OQ _ (List.mem_map.mpr ⟨nm,hk,rfl⟩))
theorem Di (hk:nm∈V7):(nm++u4)∈Eo V7:=OS _ (OS _ (List.mem_map.mpr ⟨nm,hk,rfl⟩))
theorem A6.A1 {x:O} (h:A6 x) {key:Txt}:A6 (A1 x key (.int i)):=.map _ λq v e=>(inferInstance:Decidable (key=q)).byCases (λz=>by
 subst z;rw[u5]at e;exact⟨i,(ON e).symm⟩) λz=>by
 rw[l0 z]at e
 induction h with
 |emp=>exact nomatch e
 |map f h=>exact h q v e
theorem A6.cut {x:O} (h:A6 x) {key:Txt}:A6 (cut x key):=by
 show A6 (bif c3 (fo x key)then .map (t9 (fo x) key none)else x)
 induction c3 (fo x key)with
 |false=>exact h
 |true=>exact .map _ λq v e=>(inferInstance:Decidable (key=q)).byCases (λz=>by
  subst z;rw[u5]at e;exact nomatch e) λz=>(by
  rw[l0 z]at e
  induction h with
  |emp=>exact nomatch e
  |map f h=>exact h q v e)
noncomputable def m4 (d:Nat) (nm:Txt) (v:V):Fr:=[(41,.loc 1),(21,.int (ob d)),(14,.str nm),(81,v)]
noncomputable def m5 (d:Nat) (nm:Txt) (v:V) (i:Int):Fr:=[(41,.loc 1),(21,.int (ob d)),(14,.str nm),(81,v),(16,.int i),(32,.int (zp d))]
theorem vj (n:Nat) (hd:d < 6):a8 pg (b9 pg (n+68)) [(41,.loc 1),(21,.int (ob d)),(14,.str nm),(81,v),(16,.int i)] ((K7.body.drop 1).take 1) (H p o g k t)=.ok (.next,m5 d nm v i) (H p o g k t):=
 M1 (f:=λd=>a8 pg (b9 pg (n+68)) [(41,.loc 1),(21,.int (ob d)),(14,.str nm),(81,v),(16,.int i)] ((K7.body.drop 1).take 1) (H p o g k t)) (h:=λd=>.ok (.next,m5 d nm v i) (H p o g k t)) (by rfl') hd
theorem yz (n:Nat) {Y:Hp} (hk:nm∈V7):G7 (b9 pg (n+67)) (m5 d nm v i) [(.OK 41),(.OK 32),(.bin .add (.OK 14) (.OK 91))] Y=.ok [.loc 1,.int (zp d),.str (nm++y3)] Y:=
 IZ (f:=λnm=>G7 (b9 pg (n+67)) (m5 d nm v i) [(.OK 41),(.OK 32),(.bin .add (.OK 14) (.OK 91))] Y) (h:=λnm=>.ok [.loc 1,.int (zp d),.str (nm++y3)] Y) hk (by rfl')
theorem mz (n:Nat) {Y:Hp} (pv:Pv v):G7 (b9 pg (n+67)) (m4 d nm v) [(.OK 14),(.OK 81)] Y=.ok [.str nm,v] Y:=
 i5 (I2 (v:=.str nm) (w:=.str nm) rfl rfl) rfl (i5 (I2 (v:=v) (w:=v) rfl pv.rd) pv.fz rfl)
theorem Gg (a:Acc nm v i) (pv:Pv v) (hd:d < 6) (hc:A6 (p d)) (n:Nat):(b9 pg (n+70)).run 34 [.loc 1,.int (ob d),.str nm,v] (H p o g k t)=.ok .none (H (put p d (cut (A1 (p d) nm (.int i)) (nm++y3))) o g k t):=by
 refine t8 (n:=n+69) (fd:=K7) (p:=(.next,m5 d nm v i)) (m:=m4 d nm v) rfl rfl ?_
 refine(c6 (m':=[(41,.loc 1),(21,.int (ob d)),(14,.str nm),(81,v),(16,.int i)]) (m3 (j0 (k:=31) rfl (mz n pv) (a.num (n+7) _)) (D4 (v:=.int i) (w:=.int i) rfl))).trans ?_
 refine(z4 1 (vj n hd)).trans ?_
 refine(c6 (C3 (fX (ov:=.loc 1) (c:=0) (k:=6) (u:=()) (vs:=[.int (zp d),.str nm,.int i]) rfl rfl rfl rfl rfl (qU (n:=n+57) hd (Dk a.key) hc (a.fit (n+57) _ _ _))))).trans ?_
 have f1:=J6 (p:=put p d (A1 (p d) nm (.int i))) (o:=o) (g:=g) (k:=k) (t:=t) (n+52) hd (Dj a.key) (by rw[w4];exact hc.A1)
 rw[dN,w4]at f1
 exact(c6 (C3 (j0 (k:=33) rfl (yz n a.key) f1))).trans g5
theorem tp (a:Ma nm v) (pv:Pv v) (n:Nat) {Y:Hp}:(b9 pg (n+70)).run 34 [.loc 1,.int (ob d),.str nm,v] Y=.exc (il nm) Y:=
 aN (n:=n+69) (fd:=K7) (m:=m4 d nm v) rfl rfl (aL (az (U5 (k:=31) rfl (mz n pv) (a.num (n+7) _))))
theorem yD (n:Nat) (hd:d < 6) (hk:nm∈V7):G7 (b9 pg (n+67)) [(41,.loc 1),(21,.int (ob d)),(14,.str nm),(81,v),(16,.int i)] [(.attr (.call (.OK 55) [(.OK 41),(.OK 21)]) 32),(.bin .add (.OK 14) (.OK 93)),(.OK 16)] (H p o g k t)=.ok [.int (zp d),.str (nm++u4),.int i] (H p o g k t):=
 Y3 (f:=λd nm=>G7 (b9 pg (n+67)) [(41,.loc 1),(21,.int (ob d)),(14,.str nm),(81,v),(16,.int i)] [(.attr (.call (.OK 55) [(.OK 41),(.OK 21)]) 32),(.bin .add (.OK 14) (.OK 93)),(.OK 16)] (H p o g k t)) (h:=λd nm=>.ok [.int (zp d),.str (nm++u4),.int i] (H p o g k t)) (by rfl') (Py hd) hk
theorem Gr (a:Acc nm v i) (pv:Pv v) (hd:d < 6) (hc:A6 (p d)) (n:Nat):(b9 pg (n+70)).run 36 [.loc 1,.int (ob d),.str nm,v] (H p o g k t)=.ok .none (H (put p d (A1 (p d) (nm++u4) (.int i))) o g k t):=by
 refine t8 (n:=n+69) (fd:=K6) (p:=(.next,[(41,.loc 1),(21,.int (ob d)),(14,.str nm),(81,v),(16,.int i)])) (m:=m4 d nm v) rfl rfl ?_
 refine(c6 (m':=[(41,.loc 1),(21,.int (ob d)),(14,.str nm),(81,v),(16,.int i)]) (m3 (j0 (k:=31) rfl (mz n pv) (a.num (n+7) _)) (D4 (v:=.int i) (w:=.int i) rfl))).trans ?_
 exact(c6 (C3 (fX (ov:=.loc 1) (c:=0) (k:=6) (u:=()) (vs:=[.int (zp d),.str (nm++u4),.int i]) rfl rfl rfl rfl (yD n hd a.key) (qU (n:=n+57) hd (Di a.key) hc (a.fit (n+57) _ _ _))))).trans g5
theorem Cu (a:Ma nm v) (pv:Pv v) (n:Nat) {Y:Hp}:(b9 pg (n+70)).run 36 [.loc 1,.int (ob d),.str nm,v] Y=.exc (il nm) Y:=
 aN (n:=n+69) (fd:=K6) (m:=m4 d nm v) rfl rfl (aL (az (U5 (k:=31) rfl (mz n pv) (a.num (n+7) _))))
noncomputable def mI (d:Nat) (nm:Txt) (b:Bool):Fr:=[(41,.loc 1),(21,.int (ob d)),(14,.str nm),(92,.bool b)]
noncomputable def mJ (d:Nat) (nm:Txt) (b:Bool):Fr:=[(41,.loc 1),(21,.int (ob d)),(14,.str nm),(92,.bool b),(32,.int (zp d))]
noncomputable def mD (d:Nat) (nm:Txt):Fr:=[(41,.loc 1),(21,.int (ob d)),(14,.str nm)]
noncomputable def mE (d:Nat) (nm:Txt):Fr:=[(41,.loc 1),(21,.int (ob d)),(14,.str nm),(32,.int (zp d))]
theorem lg (n:Nat) (Y:Hp) (hq:nm∈NM) (hb:B6 nm=false):(b9 pg (n+50)).run 30 [.str nm] Y=.ok (I6 nm) Y:=(oA n Y hq).trans (by rw[hb];rfl)
theorem gj (n:Nat) (Y:Hp) (hq:nm∈NM) (hb:B6 nm=true):(b9 pg (n+50)).run 30 [.str nm] Y=.exc (I4 nm) Y:=(oA n Y hq).trans (by rw[hb];rfl)
theorem jx (n:Nat) {b:Bool} (hd:d < 6):a8 pg (b9 pg (n+68)) (mI d nm b) ((G6.body.drop 1).take 1) (H p o g k t)=.ok (.next,mJ d nm b) (H p o g k t):=
 M1 (f:=λd=>a8 pg (b9 pg (n+68)) (mI d nm b) ((G6.body.drop 1).take 1) (H p o g k t)) (h:=λd=>.ok (.next,mJ d nm b) (H p o g k t)) (by rfl') hd
theorem sh (n:Nat) (hd:d < 6):a8 pg (b9 pg (n+68)) (mD d nm) ((A5.body.drop 1).take 1) (H p o g k t)=.ok (.next,mE d nm) (H p o g k t):=
 M1 (f:=λd=>a8 pg (b9 pg (n+68)) (mD d nm) ((A5.body.drop 1).take 1) (H p o g k t)) (h:=λd=>.ok (.next,mE d nm) (H p o g k t)) (by rfl') hd
theorem lj (n:Nat) {b:Bool} {Y:Hp} (hk:nm∈V7):G7 (b9 pg (n+60)) (mJ d nm b) [(.OK 41),(.OK 32),(.bin .add (.OK 14) (.OK 91))] Y=.ok [.loc 1,.int (zp d),.str (nm++y3)] Y∧G7 (b9 pg (n+60)) (mJ d nm b) [(.OK 32),(.bin .add (.OK 14) (.OK 93))] Y=.ok [.int (zp d),.str (nm++u4)] Y∧
 G7 (b9 pg (n+60)) (mJ d nm b) [(.OK 32),(.bin .add (.OK 14) (.OK 91)),(.lit (V.int 1))] Y=.ok [.int (zp d),.str (nm++y3),.int 1] Y:=
 ⟨IZ (f:=λnm=>G7 (b9 pg (n+60)) (mJ d nm b) [(.OK 41),(.OK 32),(.bin .add (.OK 14) (.OK 91))] Y) (h:=λnm=>.ok [.loc 1,.int (zp d),.str (nm++y3)] Y) hk (by rfl'),IZ (f:=λnm=>G7 (b9 pg (n+60)) (mJ d nm b) [(.OK 32),(.bin .add (.OK 14) (.OK 93))] Y) (h:=λnm=>.ok [.int (zp d),.str (nm++u4)] Y) hk (by rfl'),
  IZ (f:=λnm=>G7 (b9 pg (n+60)) (mJ d nm b) [(.OK 32),(.bin .add (.OK 14) (.OK 91)),(.lit (V.int 1))] Y) (h:=λnm=>.ok [.int (zp d),.str (nm++y3),.int 1] Y) hk (by rfl')⟩
theorem pj (n:Nat) {Y:Hp} (hk:nm∈V7):G7 (b9 pg (n+60)) (mE d nm) [(.OK 41),(.OK 32),(.bin .add (.OK 14) (.OK 91))] Y=.ok [.loc 1,.int (zp d),.str (nm++y3)] Y∧G7 (b9 pg (n+60)) (mE d nm) [(.OK 41),(.OK 32),(.bin .add (.OK 14) (.OK 93))] Y=.ok [.loc 1,.int (zp d),.str (nm++u4)] Y:=
 ⟨IZ (f:=λnm=>G7 (b9 pg (n+60)) (mE d nm) [(.OK 41),(.OK 32),(.bin .add (.OK 14) (.OK 91))] Y) (h:=λnm=>.ok [.loc 1,.int (zp d),.str (nm++y3)] Y) hk (by rfl'),IZ (f:=λnm=>G7 (b9 pg (n+60)) (mE d nm) [(.OK 41),(.OK 32),(.bin .add (.OK 14) (.OK 93))] Y) (h:=λnm=>.ok [.loc 1,.int (zp d),.str (nm++u4)] Y) hk (by rfl')⟩
theorem eD (hq:nm∈NM) (hb:B6 nm=false) (hd:d < 6) (hc:A6 (p d)) (n:Nat):(b9 pg (n+70)).run 37 [.loc 1,.int (ob d),.str nm] (H p o g k t)=.ok (.bool (c3 (fo (cut (p d) (nm++y3)) (nm++u4)))) (H (put p d (cut (cut (p d) (nm++y3)) (nm++u4))) o g k t):=by
 have hk:=fP hq hb
 refine t8 (n:=n+69) (fd:=A5) (p:=(.ret (.bool (c3 (fo (cut (p d) (nm++y3)) (nm++u4)))),mE d nm)) (m:=mD d nm) rfl rfl ?_
 refine(c6 (C3 (j0 (k:=30) (vs:=[.str nm]) rfl rfl (lg (n+17) _ hq hb)))).trans ?_
 refine(z4 1 (sh n hd)).trans ?_
 refine(c6 (C3 (j0 (k:=33) rfl (pj (n+7) hk).1 (J6 (n+52) hd (Dj hk) hc)))).trans ?_
 have f1:=J6 (p:=put p d (cut (p d) (nm++y3))) (o:=o) (g:=g) (k:=k) (t:=t) (n+52) hd (Di hk) (by rw[w4];exact hc.cut)
 rw[dN,w4]at f1
 exact s9 (B2 rfl (j0 (k:=33) rfl (pj (n+7) hk).2 f1) rfl)
theorem Aq (hq:nm∈NM) (hb:B6 nm=true) (n:Nat) {Y:Hp}:(b9 pg (n+70)).run 37 [.loc 1,.int (ob d),.str nm] Y=.exc (I4 nm) Y:=
 aN (n:=n+69) (fd:=A5) (m:=mD d nm) rfl rfl (aL (pa (U5 (k:=30) (vs:=[.str nm]) rfl rfl (gj (n+17) _ hq hb))))
end
variable {b:Bool} {rs:List (ij×X)}
section
variable {x y:List S} {r:R (Fl×Fr)} {c:ij} {a:X}
theorem bh (ht:(b9 P (n+1)).tr m e Y=.ok true c7) (h:a8 P (b9 P n) m x c7=r):g8 P (b9 P (n+1)) m (.ite e x y) Y=r:=v8 ht h
theorem N5 (ht:(b9 P (n+1)).tr m e Y=.ok false c7) (h:a8 P (b9 P n) m y c7=r):g8 P (b9 P (n+1)) m (.ite e x y) Y=r:=v8 ht h
theorem iL (h:(b9 P n).ev m e Y=.ok v c7) (k:Z0 (b9 P n) m v rs c7=.ok b u3):(b9 P (n+1)).tr m (.cmp e rs) Y=.ok b u3:=v8 h k
end
section
noncomputable def cZ (x:O) (nm:Txt):O:=bif c3 (fo x (nm++u4))then A1 x (nm++y3) (.int 1)else x
theorem CE (n:Nat) (Y:Hp) (d:Int) (key:Txt):a8 pg (b9 pg (n+8)) [(6,.loc 1),(13,.int d),(14,.str key),(16,.int 1)] (o6.body.take 1) Y=.ok (.next,[(6,.loc 1),(13,.int d),(14,.str key),(16,.int 1)]) Y:=by rfl'
theorem JO {x:Txt} (h:x∈Eo V7):x∈Eo N6:=(Px h).elim (λh=>OQ _ (OQ _ h)) λh=>(Px h).elim (λh=>OS _ (OQ _ (by rw[N6,List.map_append];exact OQ _ h))) λh=>OS _ (OS _ (by rw[N6,List.map_append];exact OQ _ h))
theorem W4 {x:O} (hx:A6 x) (key:Txt) {G:Option V->Prop} (h1:G none) (h2:∀j,G (some (.int j))):G (fo x key):=by
 cases e:fo x key with
 |none=>exact h1
 |some v=>induction hx with
  |emp=>exact nomatch e
  |map f h=>exact(h key v e).elim λj hj=>hj▸h2 j
theorem Ht (hq:nm∈NM) (hb:B6 nm=false) (hd:d < 6) (hc:A6 (p d)) (n:Nat):(b9 pg (n+70)).run 35 [.loc 1,.int (ob d),.str nm] (H p o g k t)=.ok .none (H (put p d (cZ (cut (p d) nm) nm)) o g k t):=by
 have hk:=fP hq hb
 refine t8 (n:=n+69) (fd:=G6) (p:=(.next,mJ d nm false)) (m:=mI d nm false) rfl rfl ?_
 refine(c6 (C3 (j0 (k:=30) (vs:=[.str nm]) rfl rfl (lg (n+17) _ hq hb)))).trans ?_
 refine(z4 1 (jx n hd)).trans ?_
 refine(c6 (C3 (j0 (k:=33) (vs:=[.loc 1,.int (zp d),.str nm]) rfl rfl (J6 (n+52) hd (Dk hk) hc)))).trans ?_
 have hc':A6 (put p d (cut (p d) nm) d):=by rw[w4];exact hc.cut
 have g1:=Ab (o:=o) (g:=g) (k:=k) (t:=t) (n+55) hd (JO (Di hk)) hc'
 rw[w4]at g1
 have ht:∀b,c3 (fo (cut (p d) nm) (nm++u4))=b->(b9 pg (n+67)).tr (mJ d nm false) (.cmp (.l5 (.OK 41) 1 [(.OK 32),(.bin .add (.OK 14) (.OK 93))]) [(.M6,(.lit V.none))]) (H (put p d (cut (p d) nm)) o g k t)=.ok b (H (put p d (cut (p d) nm)) o g k t):=λb hb=>by
  refine iL (fX (ov:=.loc 1) (c:=0) (k:=5) (u:=()) rfl rfl rfl rfl (lj (n+5) hk).2.1 g1) ?_
  revert hb
  exact W4 (G:=λx=>c3 x=b->Z0 (b9 pg (n+66)) (mJ d nm false) (x.getD .none) [(.M6,(.lit V.none))] (H (put p d (cut (p d) nm)) o g k t)=.ok b (H (put p d (cut (p d) nm)) o g k t)) hc.cut (nm++u4) (λhb=>hb▸rfl) λj hb=>hb▸rfl
 refine(c6 (m':=mJ d nm false) (c7:=H (put p d (cZ (cut (p d) nm) nm)) o g k t) (N5 rfl ((c6 (m':=mJ d nm false) (c7:=H (put p d (cZ (cut (p d) nm) nm)) o g k t) ?_).trans g5))).trans g5
 unfold cZ
 cases e:c3 (fo (cut (p d) nm) (nm++u4))with
 |false=>exact N5 (ht false e) rfl
 |true=>
  have p1:=qU (p:=put p d (cut (p d) nm)) (o:=o) (g:=g) (k:=k) (t:=t) (n+55) hd (Dj hk) hc' (CE (n+55) _ _ _)
  rw[dN,w4]at p1
  exact bh (ht true e) ((c6 (C3 (fX (ov:=.loc 1) (c:=0) (k:=6) (u:=()) rfl rfl rfl rfl (lj (n+5) hk).2.2 p1))).trans g5)
theorem Dr (hq:nm∈NM) (hb:B6 nm=false) (hd:d < 6) (hc:A6 (p d)) (n:Nat):(b9 pg (n+70)).run 35 [.loc 1,.int (ob d),.str nm,.bool true] (H p o g k t)=.ok .none (H (put p d (cut (cut (p d) nm) (nm++y3))) o g k t):=by
 have hk:=fP hq hb
 refine t8 (n:=n+69) (fd:=G6) (p:=(.next,mJ d nm true)) (m:=mI d nm true) rfl rfl ?_
 refine(c6 (C3 (j0 (k:=30) (vs:=[.str nm]) rfl rfl (lg (n+17) _ hq hb)))).trans ?_
 refine(z4 1 (jx n hd)).trans ?_
 refine(c6 (C3 (j0 (k:=33) (vs:=[.loc 1,.int (zp d),.str nm]) rfl rfl (J6 (n+52) hd (Dk hk) hc)))).trans ?_
 have f1:=J6 (p:=put p d (cut (p d) nm)) (o:=o) (g:=g) (k:=k) (t:=t) (n+51) hd (Dj hk) (by rw[w4];exact hc.cut)
 rw[dN,w4]at f1
 exact(c6 (m':=mJ d nm true) (bh rfl ((c6 (C3 (j0 (k:=33) rfl (lj (n+6) hk).1 f1))).trans g5))).trans g5
theorem tS {b:Bool} {r:List V} (hr:U6 G6 (.loc 1::.int (ob d)::.str nm::r)=some (mI d nm b)) (hq:nm∈NM) (hb:B6 nm=true) (n:Nat) {Y:Hp}:(b9 pg (n+70)).run 35 (.loc 1::.int (ob d)::.str nm::r) Y=.exc (I4 nm) Y:=
 aN (n:=n+69) (fd:=G6) (m:=mI d nm b) rfl hr (aL (pa (U5 (k:=30) (vs:=[.str nm]) rfl rfl (gj (n+17) _ hq hb))))
end
inductive Cl:O->Prop
 |emp:Cl .emp
 |map (f:Txt->Option V):Cl (.map f)
noncomputable def ae (x:O) (k:Txt):O:=match x with
 |.map f=>.map (t9 f k none)
 |x=>x
theorem Cl.A1 {x:O} {k:Txt} {v:V}:Cl (A1 x k v):=.map _
theorem Cl.ae {x:O} (h:Cl x) {k:Txt}:Cl (ae x k):=by
 induction h with
 |emp=>exact .emp
 |map f=>exact .map _
theorem uf {x:O} {k:Txt} {v:V}:fo (A1 x k v)=t9 (fo x) k (some v):=rfl
theorem ng {f:Txt->Option V} {k:Txt} (h:f k=none):t9 f k none=f:=h▸E6
theorem lr {x:O} (h:Cl x) {k:Txt}:fo (ae x k)=t9 (fo x) k none:=by
 induction h with
 |emp=>exact(ng rfl).symm
 |map f=>rfl
theorem Q5 {x:O} {k:Txt}:fo (cut x k)=t9 (fo x) k none:=by
 unfold cut
 cases e:fo x k with
 |none=>exact(ng e).symm
 |some v=>rfl
def Nl (x:Nat) (t:List O) (d:Nat) (ns:List Txt):Prop:=(x=26+3 * d∧ns=[])∨∃j,x=j+42∧t[j]? =some (.list (ns.map .str))
structure Wd (p o g:Nat->O) (k:Nat->Nat) (t:List O) (N:Nat->List Txt):Prop where
 p:∀d,d < 6->A6 (p d)
 o:∀d,d < 6->Cl (o d)
 g:∀d,d < 6->Cl (g d)
 n:∀d,d < 6->Nl (k d) t d (N d)
variable {N:Nat->List Txt}
section
variable {x y:O} {ns:List Txt}
theorem dO {α:Type} {f:Nat->α} {Q:Nat->α->Prop} (h:∀e,e < 6->Q e (f e)) {z:α} (hz:Q d z):∀e,e < 6->Q e (put f d z e):=λe he=>(Nat.decEq e d).byCases (λq=>by rw[q,w4];exact hz) λq=>by rw[K2 q];exact h e he
theorem Wd.yw (w:Wd p o g k t N) (h:A6 x):Wd (put p d x) o g k t N:=⟨dO (Q:=λJ=>A6) w.p h,w.o,w.g,w.n⟩
theorem Wd.Ge (w:Wd p o g k t N) (h:Cl x):Wd p (put o d x) g k t N:=⟨w.p,dO (Q:=λJ=>Cl) w.o h,w.g,w.n⟩
theorem Wd.Jp (w:Wd p o g k t N) (h:Cl x):Wd p o (put g d x) k t N:=⟨w.p,w.o,dO (Q:=λJ=>Cl) w.g h,w.n⟩
theorem Wd.yy (w:Wd p o g k t N):Wd p o g (put k d (t.length+42)) (t++[.list (ns.map .str)]) (put N d ns):=⟨w.p,w.o,w.g,λe he=>(Nat.decEq e d).byCases (λq=>by
 rw[q,w4,w4]
 exact .inr ⟨t.length,rfl,List.getElem?_concat_length⟩) λq=>by
 rw[K2 q,K2 q]
 exact(w.n e he).imp id λ⟨j,e1,e2⟩=>⟨j,e1,(Pn (List.getElem?_eq_some_iff.mp e2).1).trans e2⟩⟩
theorem Lh (w:Wd p o g k t N) (hd:d < 6):(H p o g k t)[k d]? =some (.list ((N d).map .str)):=(w.n d hd).elim (λ⟨e,e'⟩=>by
 rw[e,e']
 exact M1 (f:=λd=>(H p o g k t)[26+3 * d]?) (h:=λd=>some (.list [])) (by rfl') hd) λ⟨j,e,e'⟩=>by rw[e];exact e'
noncomputable def qN (d:Nat) (x:Nat):O:=fV (Bu d) ([-1,0,1,2,1,0].getD d 0) (ob d) (ol d) (gq d) x
theorem Jq {x:Nat} (hd:d < 6):(H p o g k t).set (rl d) (qN d x)=H p o g (put k d x) t:=M1 (f:=λd=>(H p o g k t).set (rl d) (qN d x)) (h:=λd=>H p o g (put k d x) t) (by rfl') hd
theorem Ng (hd:d < 6):(H p o g k t)[rl d]? =some (qN d (k d)):=M1 (f:=λd=>(H p o g k t)[rl d]?) (h:=λd=>some (qN d (k d))) (by rfl') hd
theorem Gh {x:Nat} (hd:d < 6):S7 pg (.loc (rl d)) (.str [110,111]) (.loc x) (H p o g k t)=.ok () (H p o g (put k d x) t):=by
 have e:S7 pg (.loc (rl d)) (.str [110,111]) (.loc x) (H p o g k t)=.ok () ((H p o g k t).set (rl d) (.map (t9 (fo (qN d (k d))) MI (some (.loc x))))):=by
  show(b8 55 ((H p o g k t)[rl d]?) (H p o g k t)).bind _=_
  rw[Ng hd];rfl
 rw[e,show O.map (t9 (fo (qN d (k d))) MI (some (.loc x)))=qN d x from OY O.map BL,Jq hd]
end
noncomputable def t7 (w:Int) (nm:Txt):Txt->Bool:=λa=>!r5 a nm || decide (w=4)
noncomputable def LK:X:=.mN [(.cmp (.OK 118) [(.ne,(.OK 14))]),(.cmp (.OK 120) [(.eq,(.lit (V.int 4)))])]
variable {l:Nat}
section
variable {a:Txt} {cond:X}
theorem AB (hc:r.tr (putN m 118 (.str a)) cond Y=.ok b Y) (he:r.ev (putN m 118 (.str a)) (.OK 118) Y=.ok (.str a) Y):jT r m (.OK 118) [118] (some cond) (.str a) Y=.ok (bif b then[.str a]else[]) Y:=by
 refine v8 (a:=putN m 118 (.str a)) (c7:=Y) rfl ?_
 show((r.tr (putN m 118 (.str a)) cond Y).z6).bind _=_
 rw[hc]
 induction b with
 |false=>rfl
 |true=>
  show((r.ev (putN m 118 (.str a)) (.OK 118) Y).z6).bind _=_
  rw[he];rfl
theorem sj {ns:List Txt} {c:Txt->Bool} (hl:Y[l]? =some (.list (ns.map .str))) (hc:∀a,r.tr (putN m 118 (.str a)) cond Y=.ok (c a) Y) (he:∀a,r.ev (putN m 118 (.str a)) (.OK 118) Y=.ok (.str a) Y) {fu:Nat}:
 ∀{j:Nat},j≤ns.length->ns.length < j+fu->jU r m (.OK 118) [118] (some cond) l fu j Y=.ok (((ns.drop j).filter c).map .str) Y:=by
 have la:listAt Y l=some (ns.map .str):=by unfold listAt;rw[hl];rfl
 induction fu with
 |zero=>exact λh1 h2=>absurd h2 (Nat.not_lt.mpr h1)
 |succ fu ih=>
  intro j h1 h2
  show(b8 78 (listAt Y l) Y).bind _=_
  rw[la]
  show og (ns.map V.str)[j]? _ _=_
  rw[Po]
  cases e:ns[j]? with
  |none=>rw[List.drop_of_length_le (List.getElem?_eq_none_iff.mp e)];rfl
  |some a=>
   have hj:=(List.getElem?_eq_some_iff.mp e).1
   rw[List.drop_eq_getElem_cons hj,(List.getElem?_eq_some_iff.mp e).2,List.filter_cons]
   refine v8 (AB (hc a) (he a)) (v8 (ih hj (by rw[Nat.succ_add];exact h2)) ?_)
   induction c a<;>rfl
theorem fE {m:Fr}:m.all (λq=>quiet q.2)=true->C7 m=m:=by
 induction m with
 |nil=>exact λJ=>rfl
 |cons p r ih=>
  intro h
  refine a7 h λh1 h2=>?_
  show(bif quiet p.2 then(p.1,p.2)::C7 r else _)=_
  rw[show quiet p.2=true from h1,ih h2];rfl
end
noncomputable def L4 (w:Int) (d:Nat) (nm:Txt) (v:V) (due:Txt) (y:V):Fr:=[(41,.loc 1),(15,.loc 8),(120,.int w),(21,.int (Int.ofNat d)),(14,.str nm),(81,v),(34,.loc (rl d)),(28,.int (ob d)),(121,.str due),(123,y)]
noncomputable def sW:S->List S
 |.ite _ a _=>a
 |_=>[]
noncomputable def Ot:List S:=sW (f9.body.getD 5 .pass)
variable {w:Int}
section
variable {y:V}
theorem CL (n:Nat) (a:Txt) {Y:Hp} (hw:w∈[(0:Int),1,2,3,4,5]):(b9 pg (n+10)).tr (putN (L4 w d nm v [] y) 118 (.str a)) LK Y=.ok (t7 w nm a) Y:=by
 have h1:(b9 pg (n+9)).tr (putN (L4 w d nm v [] y) 118 (.str a)) (.cmp (.OK 118) [(.ne,(.OK 14))]) Y=.ok (!r5 a nm) Y:=by rfl'
 have h2:(b9 pg (n+9)).tr (putN (L4 w d nm v [] y) 118 (.str a)) (.cmp (.OK 120) [(.eq,(.lit (V.int 4)))]) Y=.ok (decide (w=4)) Y:=e8 (a:=w) (f:=λw=>(b9 pg (n+9)).tr (putN (L4 w d nm v [] y) 118 (.str a)) (.cmp (.OK 120) [(.eq,(.lit (V.int 4)))]) Y) (h:=λw=>.ok (decide (w=4)) Y) (by rfl') hw
 have e0:(b9 pg (n+10)).tr (putN (L4 w d nm v [] y) 118 (.str a)) LK Y=((b9 pg (n+9)).tr (putN (L4 w d nm v [] y) 118 (.str a)) (.cmp (.OK 118) [(.ne,(.OK 14))]) Y).bind λt Y=>bif t == false then(((b9 pg (n+9)).tr (putN (L4 w d nm v [] y) 118 (.str a)) (.cmp (.OK 120) [(.eq,(.lit (V.int 4)))]) Y).bind λt Y=>bif t == false then .ok false Y else .ok t Y)else .ok t Y:=by rfl'
 rw[e0,h1]
 unfold t7
 induction r5 a nm with
 |false=>rfl
 |true=>
  show(((b9 pg (n+9)).tr (putN (L4 w d nm v [] y) 118 (.str a)) (.cmp (.OK 120) [(.eq,(.lit (V.int 4)))]) Y).bind λt Y=>bif t == false then R.ok false Y else R.ok t Y)=_
  rw[h2]
  induction decide (w=4)<;>rfl
theorem GN (n:Nat) (hv:quiet v=true) (hy:quiet y=true) (hw:w∈[(0:Int),1,2,3,4,5]) (ww:Wd p o g k t N) (hd:d < 6) (hl:(N d).length≤60):
 px (b9 pg (n+10)) (L4 w d nm v [] y) (.OK 118) [118] (some LK) .val [.loc (k d)] (H p o g k t)=.ok (((N d).filter (t7 w nm)).map .str) (H p o g k t):=by
 have ec:C7 (L4 w d nm v [] y)=L4 w d nm v [] y:=fE (show(quiet v&&(quiet y&&true))=true by rw[hv,hy];rfl)
 show jU (b9 pg (n+10)) (C7 (L4 w d nm v [] y)) (.OK 118) [118] (some LK) (k d) 64 0 (H p o g k t)=_
 rw[ec]
 exact sj (Lh ww hd) (λa=>CL n a hw) (λa=>by rfl') (Nat.zero_le _) (by rw[Nat.zero_add];exact Pf hl (by decide))
end
section
variable {x y:X} {z:R V} {t:Txt}
theorem Kc (ht:(b9 P n).tr m e Y=.ok true c7) (h:(b9 P n).ev m x c7=z):(b9 P (n+1)).ev m (.ite e x y) Y=z:=v8 ht h
theorem Ko (hc:C7 m=m) (h:(b9 P n).ev m e Y=.ok v c7) (hf:freeze v=some v):(b9 P (n+1)).ev m (.A3 e) Y=.ok (.tup [.str [],v]) c7:=by
 show cB ((b9 P n).ev (C7 m) e Y)=_
 rw[hc,h]
 show(b8 102 (freeze v) c7).bind _=_
 rw[hf];rfl
theorem Aa (hc:C7 m=m) (h:(b9 P n).ev m e Y=.exc t c7):(b9 P (n+1)).ev m (.A3 e) Y=.ok (.tup [.str t,.none]) c7:=by
 show cB ((b9 P n).ev (C7 m) e Y)=_
 rw[hc,h];rfl
end
noncomputable def L0 (w:Int) (d:Nat) (nm:Txt) (v:V):Fr:=[(41,.loc 1),(15,.loc 8),(120,.int w),(21,.int (Int.ofNat d)),(14,.str nm),(81,v)]
noncomputable def L1 (w:Int) (d:Nat) (nm:Txt) (v:V):Fr:=[(41,.loc 1),(15,.loc 8),(120,.int w),(21,.int (Int.ofNat d)),(14,.str nm),(81,v),(34,.loc (rl d)),(28,.int (ob d))]
noncomputable def L3 (w:Int) (d:Nat) (nm:Txt) (v:V) (due:Txt):Fr:=[(41,.loc 1),(15,.loc 8),(120,.int w),(21,.int (Int.ofNat d)),(14,.str nm),(81,v),(34,.loc (rl d)),(28,.int (ob d)),(121,.str due)]
noncomputable abbrev WS:List Int:=[0,1,4]
noncomputable abbrev WO:List Int:=[2,3,5]
noncomputable def iJ (nm:Txt):Txt:=bif B6 nm then I4 nm else[]
section
variable {due:Txt} {y:V} (n:Nat)
theorem Mo (hd:d < 6):a8 pg (b9 pg (n+73)) (L0 w d nm v) (f9.body.take 1) (H p o g k t)=.ok (.next,L1 w d nm v) (H p o g k t):=M1 (f:=λd=>a8 pg (b9 pg (n+73)) (L0 w d nm v) (f9.body.take 1) (H p o g k t)) (h:=λd=>.ok (.next,L1 w d nm v) (H p o g k t)) (by rfl') hd
theorem Gj {Y:Hp} (hw:w∈WS) (pv:Pv v) (hr:∀n Y,(b9 pg (n+60)).run 50 [.str nm,v] Y=.ok (.str due) Y):a8 pg (b9 pg (n+73)) (L1 w d nm v) ((f9.body.drop 1).take 2) Y=.ok (.next,L3 w d nm v due) Y:=by
 have ht:(b9 pg (n+70)).tr (L1 w d nm v) (.cmp (.OK 120) [(.iz,(.tuple [(.lit (V.int 0)),(.lit (V.int 1)),(.lit (V.int 4))]))]) Y=.ok true Y:=e8 (β:=R Bool) (a:=w) (f:=λw=>(b9 pg (n+70)).tr (L1 w d nm v) (.cmp (.OK 120) [(.iz,(.tuple [(.lit (V.int 0)),(.lit (V.int 1)),(.lit (V.int 4))]))]) Y) (h:=λw=>.ok true Y) (by rfl') hw
 have he:G7 (b9 pg (n+71+1)) (L1 w d nm v) [(.OK 14),(.ite (.cmp (.OK 120) [(.iz,(.tuple [(.lit (V.int 0)),(.lit (V.int 1)),(.lit (V.int 4))]))]) (.OK 81) (.lit (V.int 1)))] Y=.ok [.str nm,v] Y:=by
  have ht:(b9 pg (n+71)).tr (L1 w d nm v) (.cmp (.OK 120) [(.iz,(.tuple [(.lit (V.int 0)),(.lit (V.int 1)),(.lit (V.int 4))]))]) Y=.ok true Y:=e8 (β:=R Bool) (a:=w) (f:=λw=>(b9 pg (n+71)).tr (L1 w d nm v) (.cmp (.OK 120) [(.iz,(.tuple [(.lit (V.int 0)),(.lit (V.int 1)),(.lit (V.int 4))]))]) Y) (h:=λw=>.ok true Y) (by rfl') hw
  exact i5 (I2 (v:=.str nm) (w:=.str nm) rfl rfl) rfl (i5 (Kc ht (I2 (n:=n+70) (v:=v) (w:=v) rfl pv.rd)) pv.fz rfl)
 refine(c6 (m':=L3 w d nm v due) (m3 (j0 (n:=n+72) (k:=50) rfl he (hr (n+12) _)) (D4 (v:=.str due) (w:=.str due) rfl))).trans ?_
 exact e8 (β:=R (Fl×Fr)) (a:=w) (f:=λw=>a8 pg (b9 pg (n+73)) (L3 w d nm v due) ((f9.body.drop 2).take 1) Y) (h:=λw=>.ok (.next,L3 w d nm v due) Y) (by rfl') hw
theorem Co {Y:Hp} (hw:w∈WO) (hn:nm∈NM):a8 pg (b9 pg (n+73)) (L1 w d nm v) ((f9.body.drop 1).take 2) Y=.ok (.next,L3 w d nm v (iJ nm)) Y:=
 Y3 (γ:=R (Fl×Fr)) (a:=w) (b:=nm) (f:=λw nm=>a8 pg (b9 pg (n+73)) (L1 w d nm v) ((f9.body.drop 1).take 2) Y) (h:=λw nm=>.ok (.next,L3 w d nm v (iJ nm)) Y) (by rfl') hw hn
theorem Lb (pv:Pv v):C7 (L3 w d nm v due)=L3 w d nm v due:=fE (show(quiet v&&true)=true by rw[pv.qt];rfl)
inductive Hr:R V->V->Hp->Prop
 |ok (z:V) (Y:Hp) (hf:freeze z=some z):Hr (.ok z Y) (.tup [.str [],z]) Y
 |exc (t:Txt) (Y:Hp):Hr (.exc t Y) (.tup [.str t,.none]) Y
theorem Hr.Ow {r:R V} {y:V} {Y:Hp} (h:Hr r y Y):freeze y=some y:=by induction h<;>rfl
theorem vV {n:Nat} {m:Fr} {Y c7:Hp} {e:X} {es:List X} {vs:List V} {f:Nat} {r:R V} {y:V} (hc:C7 m=m) (hf:(b9 pg n).ev m e Y=.ok (.fn f) Y) (he:G7 (b9 pg n) m es Y=.ok vs Y) (hr:(b9 pg n).run f vs Y=r) (h:Hr r y c7):
 a8 pg (b9 pg (n+2)) m [.assign (.OK 123) (.A3 (.call e es))] Y=.ok (.next,putN m 123 y) c7:=by
 refine(c6 (m':=putN m 123 y) (c7:=c7) (m3 (v:=y) (c7:=c7) ?_ (D4 h.Ow))).trans g5
 induction h with
 |ok z Y hz=>exact Ko hc (j0 hf he hr) hz
 |exc t Y=>exact Aa hc (U5 hf he hr)
inductive iR (n:Nat) (Y:Hp) (d:Nat) (nm:Txt) (v:V) (r:R V):Int->Prop
 |s0 (h:(b9 pg (n+70)).run 34 [.loc 1,.int (ob d),.str nm,v] Y=r):iR n Y d nm v r 0
 |s1 (h:(b9 pg (n+70)).run 34 [.loc 1,.int (ob d),.str nm,v] Y=r):iR n Y d nm v r 1
 |s2 (h:(b9 pg (n+69)).run 35 [.loc 1,.int (ob d),.str nm] Y=r):iR n Y d nm v r 2
 |s3 (h:(b9 pg (n+68)).run 35 [.loc 1,.int (ob d),.str nm,.bool true] Y=r):iR n Y d nm v r 3
 |s4 (h:(b9 pg (n+67)).run 36 [.loc 1,.int (ob d),.str nm,v] Y=r):iR n Y d nm v r 4
 |s5 (h:(b9 pg (n+67)).run 37 [.loc 1,.int (ob d),.str nm] Y=r):iR n Y d nm v r 5
theorem Bl {Y:Hp} {w:Int} {n:Nat} (pv:Pv v):G7 (b9 pg (n+1)) (L3 w d nm v due) [(.OK 41),(.OK 28),(.OK 14),(.OK 81)] Y=.ok [.loc 1,.int (ob d),.str nm,v] Y:=
 i5 (I2 (v:=.loc 1) (w:=.loc 1) rfl rfl) rfl (i5 (I2 (v:=.int (ob d)) (w:=.int (ob d)) rfl rfl) rfl (i5 (I2 (v:=.str nm) (w:=.str nm) rfl rfl) rfl (i5 (I2 (v:=v) (w:=v) rfl pv.rd) pv.fz rfl)))
theorem qM {Y c7:Hp} {r:R V} (pv:Pv v) (hd:iR n Y d nm v r w) (h:Hr r y c7):a8 pg (b9 pg (n+73)) (L3 w d nm v due) ((f9.body.drop 3).take 1) Y=.ok (.next,L4 w d nm v due y) c7:=by
 have hc:=Lb (d:=d) (nm:=nm) (due:=due) (w:=w) pv
 induction hd with
 |s0 hr=>exact(c6 (bh (n:=n+72) rfl (vV hc rfl (Bl (n:=n+69) pv) hr h))).trans g5
 |s1 hr=>exact(c6 (bh (n:=n+72) rfl (vV hc rfl (Bl (n:=n+69) pv) hr h))).trans g5
 |s2 hr=>exact(c6 (N5 (n:=n+72) rfl ((c6 (bh (n:=n+71) rfl (vV (n:=n+69) hc rfl rfl hr h))).trans g5))).trans g5
 |s3 hr=>exact(c6 (N5 (n:=n+72) rfl ((c6 (N5 (n:=n+71) rfl ((c6 (bh (n:=n+70) rfl (vV (n:=n+68) hc rfl rfl hr h))).trans g5))).trans g5))).trans g5
 |s4 hr=>exact(c6 (N5 (n:=n+72) rfl ((c6 (N5 (n:=n+71) rfl ((c6 (N5 (n:=n+70) rfl ((c6 (bh (n:=n+69) rfl (vV (n:=n+67) hc rfl (Bl (n:=n+66) pv) hr h))).trans g5))).trans g5))).trans g5))).trans g5
 |s5 hr=>exact(c6 (N5 (n:=n+72) rfl ((c6 (N5 (n:=n+71) rfl ((c6 (N5 (n:=n+70) rfl ((c6 (N5 (n:=n+69) rfl (vV (n:=n+67) hc rfl rfl hr h))).trans g5))).trans g5))).trans g5))).trans g5
noncomputable abbrev yN:V:=.tup [.str [],.none]
theorem Cn {Y:Hp} (hw:w∈[(0:Int),1,2,3,4]):a8 pg (b9 pg (n+73)) (L4 w d nm v [] yN) ((f9.body.drop 4).take 1) Y=.ok (.next,L4 w d nm v [] yN) Y:=
 e8 (β:=R (Fl×Fr)) (a:=w) (f:=λw=>a8 pg (b9 pg (n+73)) (L4 w d nm v [] yN) ((f9.body.drop 4).take 1) Y) (h:=λw=>.ok (.next,L4 w d nm v [] yN) Y) (by rfl') hw
theorem EF {Y:Hp} (hw:w∈[(0:Int),1,2,3,4,5]) (hn:nm∈NM):a8 pg (b9 pg (n+73)) (L4 w d nm v (il nm) (.tup [.str (il nm),.none])) (f9.body.drop 4) Y=.ok (.ret (.bool true),L4 w d nm v (il nm) (.tup [.str (il nm),.none])) Y:=
 Y3 (γ:=R (Fl×Fr)) (a:=w) (b:=nm) (f:=λw nm=>a8 pg (b9 pg (n+73)) (L4 w d nm v (il nm) (.tup [.str (il nm),.none])) (f9.body.drop 4) Y) (h:=λw nm=>.ok (.ret (.bool true),L4 w d nm v (il nm) (.tup [.str (il nm),.none])) Y) (by rfl') hw hn
theorem Js (hd:d < 6) (hn:nm∈V7) {b:Bool} (hc:Cl (g d)) (hb:c3 (fo (g d) nm)=b):a8 pg (b9 pg (n+73)) (L4 5 d nm v [] (.tup [.str [],.bool b])) ((f9.body.drop 4).take 1) (H p o g k t)=.ok (.next,L4 5 d nm v [] (.tup [.str [],.bool b])) (H p o g k t):=by
 have hd':=Py hd
 have go:∀x,Cl x->c3 (fo x nm)=b->a8 pg (b9 pg (n+73)) (L4 5 d nm v [] (.tup [.str [],.bool b])) ((f9.body.drop 4).take 1) (H p o (put g d x) k t)=.ok (.next,L4 5 d nm v [] (.tup [.str [],.bool b])) (H p o (put g d x) k t):=λx hx hb=>by
  subst hb
  induction hx with
  |emp=>exact Y3 (γ:=R (Fl×Fr)) (a:=d) (b:=nm) (f:=λd nm=>a8 pg (b9 pg (n+73)) (L4 5 d nm v [] (.tup [.str [],.bool (c3 (fo .emp nm))])) ((f9.body.drop 4).take 1) (H p o (put g d .emp) k t)) (h:=λd nm=>.ok (.next,L4 5 d nm v [] (.tup [.str [],.bool (c3 (fo .emp nm))])) (H p o (put g d .emp) k t)) (by rfl') hd' hn
  |map f=>
   have e:t9 f nm (f nm)=f:=E6
   rw[←e]
   induction f nm with
   |none=>exact Y3 (γ:=R (Fl×Fr)) (a:=d) (b:=nm) (f:=λd nm=>a8 pg (b9 pg (n+73)) (L4 5 d nm v [] (.tup [.str [],.bool (c3 (fo (.map (t9 f nm none)) nm))])) ((f9.body.drop 4).take 1) (H p o (put g d (.map (t9 f nm none))) k t)) (h:=λd nm=>.ok (.next,L4 5 d nm v [] (.tup [.str [],.bool (c3 (fo (.map (t9 f nm none)) nm))])) (H p o (put g d (.map (t9 f nm none))) k t)) (by rfl') hd' hn
   |some u=>exact Y3 (γ:=R (Fl×Fr)) (a:=d) (b:=nm) (f:=λd nm=>a8 pg (b9 pg (n+73)) (L4 5 d nm v [] (.tup [.str [],.bool (c3 (fo (.map (t9 f nm (some u))) nm))])) ((f9.body.drop 4).take 1) (H p o (put g d (.map (t9 f nm (some u)))) k t)) (h:=λd nm=>.ok (.next,L4 5 d nm v [] (.tup [.str [],.bool (c3 (fo (.map (t9 f nm (some u))) nm))])) (H p o (put g d (.map (t9 f nm (some u)))) k t)) (by rfl') hd' hn
 have q:=go (g d) hc hb
 rw[o9]at q
 exact q
end
variable {iv:V} {xs:List V}
section
variable {o i:X} {w:V} {a:Txt}
theorem Dn (hf:freeze v=some w) (ho:r.ev m o Y=.ok ov Y) (hi:r.ev m i Y=.ok iv Y) (hs:S7 P ov iv w Y=.ok () c7):store P r (.item o i) v m Y=.ok m c7:=by
 show(b8 125 (freeze v) Y).bind _=_
 rw[hf]
 exact v8 (a:=w) (c7:=Y) rfl (v8 ho (v8 hi (v8 hs rfl)))
theorem Nk (ho:(b9 P n).ev m o Y=.ok (.loc l) Y) (hl:Y[l]? =some (.list xs)) (ha:m7 (b9 P n) m es Y=.ok [.str a] Y) (hz:xs.length≤1000):(b9 P (n+1)).ev m (.l5 o 0 es) Y=.ok .none (Y.set l (.list (xs++[.str a]))):=by
 refine v8 ho ?_
 have h1:gU (.loc l) Y=none:=by
  show((Y[l]?).bind λob=>(tG ob).map (·.1))=none
  rw[hl];rfl
 have h2:DY (.loc l) 0 Y=some ():=by
  show(((Y[l]?).bind (KZ 0)).or _)=_
  rw[hl];rfl
 show og (gU (.loc l) Y) _ _=_
 rw[h1]
 show(b8 91 (DY (.loc l) 0 Y) Y).bind _=_
 rw[h2]
 refine v8 (a:=()) (c7:=Y) rfl (v8 ha ?_)
 show cY ((b8 30 (Y[l]?) Y).bind _) _=_
 rw[hl]
 show cY (cY (bif Nat.beq 0 aY&&Nat.ble xs.length 1000 then tN l xs [.str a] Y else .no 21) _) _=_
 rw[Pe hz];rfl
end
noncomputable def cs (j:Nat):S:=Ot.getD j .pass
section
variable {y:V} (n:Nat)
theorem NL:(H p o g k t).length=t.length+42:=rfl
theorem pI (hv:quiet v=true) (hy:quiet y=true) (hw:w∈[(0:Int),1,2,3,4,5]) (ww:Wd p o g k t N) (hd:d < 6) (hl:(N d).length≤60):
 g8 pg (b9 pg (n+12)) (L4 w d nm v [] y) (cs 0) (H p o g k t)=.ok (.next,L4 w d nm v [] y) (H p o g (put k d (t.length+42)) (t++[.list (((N d).filter (t7 w nm)).map .str)])):=by
 refine m3 (v:=.loc (t.length+42)) (c7:=H p o g k (t++[.list (((N d).filter (t7 w nm)).map .str)])) ?_ (Dn (o:=.OK 34) (i:=.lit (V.str [110,111])) (ov:=.loc (rl d)) (iv:=.str [110,111]) (w:=.loc (t.length+42)) rfl rfl rfl (Gh hd))
 have e1:m7 (b9 pg (n+11)) (L4 w d nm v [] y) [.sub (.OK 34) (.lit (V.str [110,111]))] (H p o g k t)=.ok [.loc (k d)] (H p o g k t):=M1 (β:=R (List V)) (f:=λd=>m7 (b9 pg (n+11)) (L4 w d nm v [] y) [.sub (.OK 34) (.lit (V.str [110,111]))] (H p o g k t)) (h:=λd=>.ok [.loc (k d)] (H p o g k t)) (by rfl') hd
 show((m7 (b9 pg (n+11)) (L4 w d nm v [] y) [.sub (.OK 34) (.lit (V.str [110,111]))] (H p o g k t)).z6).bind _=_
 rw[e1]
 exact v8 (a:=[V.loc (k d)]) (c7:=H p o g k t) rfl (v8 (GN (nm:=nm) (n+1) hv hy hw ww hd hl) rfl)
theorem bC {α:Type} {F OJ:Nat->Txt->O->α} (h1:(B8 D6 V7).map (λq=>F q.1 q.2 .emp)=(B8 D6 V7).foldr (λq r=>OJ q.1 q.2 .emp::r) []) (h2:∀f,(B8 D6 V7).map (λq=>F q.1 q.2 (.map f))=(B8 D6 V7).foldr (λq r=>OJ q.1 q.2 (.map f)::r) []) (hd:d < 6) (hn:nm∈V7) {x:O} (hx:Cl x):F d nm x=OJ d nm x:=by
 induction hx with
 |emp=>exact Y3 (f:=λd nm=>F d nm .emp) (h:=λd nm=>OJ d nm .emp) h1 (Py hd) hn
 |map f=>exact Y3 (f:=λd nm=>F d nm (.map f)) (h:=λd nm=>OJ d nm (.map f)) (h2 f) (Py hd) hn
theorem aj {G:V->Prop} (h:isQ v=true) (h1:∀i,G (.int i)) (h2:∀s,G (.str s)):G v:=by
 cases v with
 |int i=>exact h1 i
 |str s=>exact h2 s
 |_=>exact Bool.noConfusion h
noncomputable abbrev bU (n:Nat) (w:Int) (d:Nat) (nm:Txt) (v y:V) (j:Nat) (Y:Hp):R (Fl×Fr):=g8 pg (b9 pg (n+12)) (L4 w d nm v [] y) (cs j) Y
noncomputable abbrev ck (w:Int) (d:Nat) (nm:Txt) (v y:V) (Y:Hp):R (Fl×Fr):=.ok (.next,L4 w d nm v [] y) Y
theorem Il (hw:w∈[(0:Int),1]) (hq:isQ v=true) (hd:d < 6) (hn:nm∈V7) (hc:Cl (o d)):bU n w d nm v y 1 (H p o g k t)=ck w d nm v y (H p (put o d (A1 (o d) nm v)) g k t):=by
 have go:∀x,Cl x->bU n w d nm v y 1 (H p (put o d x) g k t)=ck w d nm v y (H p (put o d (A1 x nm v)) g k t):=λx hx=>aj (G:=λv=>bU n w d nm v y 1 (H p (put o d x) g k t)=ck w d nm v y (H p (put o d (A1 x nm v)) g k t)) hq
  (λi=>(OW hw).elim (λe=>e▸bC (F:=λd nm x=>bU n 0 d nm (.int i) y 1 (H p (put o d x) g k t)) (OJ:=λd nm x=>ck 0 d nm (.int i) y (H p (put o d (A1 x nm (.int i))) g k t)) (by rfl') (λf=>by rfl') hd hn hx)
   λe=>OX e▸bC (F:=λd nm x=>bU n 1 d nm (.int i) y 1 (H p (put o d x) g k t)) (OJ:=λd nm x=>ck 1 d nm (.int i) y (H p (put o d (A1 x nm (.int i))) g k t)) (by rfl') (λf=>by rfl') hd hn hx)
  (λi=>(OW hw).elim (λe=>e▸bC (F:=λd nm x=>bU n 0 d nm (.str i) y 1 (H p (put o d x) g k t)) (OJ:=λd nm x=>ck 0 d nm (.str i) y (H p (put o d (A1 x nm (.str i))) g k t)) (by rfl') (λf=>by rfl') hd hn hx)
   λe=>OX e▸bC (F:=λd nm x=>bU n 1 d nm (.str i) y 1 (H p (put o d x) g k t)) (OJ:=λd nm x=>ck 1 d nm (.str i) y (H p (put o d (A1 x nm (.str i))) g k t)) (by rfl') (λf=>by rfl') hd hn hx)
 have q:=go (o d) hc
 rw[o9]at q
 exact q
theorem AP (hw:w∈[(2:Int),3]) (hd:d < 6) (hn:nm∈V7) (hc:Cl (o d)):bU n w d nm v y 1 (H p o g k t)=ck w d nm v y (H p (put o d (ae (o d) nm)) g k t):=by
 have go:∀x,Cl x->bU n w d nm v y 1 (H p (put o d x) g k t)=ck w d nm v y (H p (put o d (ae x nm)) g k t):=λx hx=>
  (OW hw).elim (λe=>e▸bC (F:=λd nm x=>bU n 2 d nm v y 1 (H p (put o d x) g k t)) (OJ:=λd nm x=>ck 2 d nm v y (H p (put o d (ae x nm)) g k t)) (by rfl') (λf=>by rfl') hd hn hx)
   λe=>OX e▸bC (F:=λd nm x=>bU n 3 d nm v y 1 (H p (put o d x) g k t)) (OJ:=λd nm x=>ck 3 d nm v y (H p (put o d (ae x nm)) g k t)) (by rfl') (λf=>by rfl') hd hn hx
 have q:=go (o d) hc
 rw[o9]at q
 exact q
theorem AQ {Y:Hp} (hw:w∈[(4:Int),5]):bU n w d nm v y 1 Y=ck w d nm v y Y:=e8 (f:=λw=>bU n w d nm v y 1 Y) (h:=λw=>ck w d nm v y Y) (by rfl') hw
theorem lR {Y:Hp} (hw:w∈[(0:Int),1,3,4,5]):bU n w d nm v y 2 Y=ck w d nm v y Y:=e8 (f:=λw=>bU n w d nm v y 2 Y) (h:=λw=>ck w d nm v y Y) (by rfl') hw
theorem lQ {Y:Hp} (hw:w∈[(0:Int),1,2,3,5]):bU n w d nm v y 3 Y=ck w d nm v y Y:=e8 (f:=λw=>bU n w d nm v y 3 Y) (h:=λw=>ck w d nm v y Y) (by rfl') hw
theorem lP {Y:Hp} (hw:w∈[(0:Int),1,2,3,4]):bU n w d nm v y 4 Y=ck w d nm v y Y:=e8 (f:=λw=>bU n w d nm v y 4 Y) (h:=λw=>ck w d nm v y Y) (by rfl') hw
theorem Ij (hq:isQ v=true) (hd:d < 6) (hn:nm∈V7) (hc:Cl (g d)):bU n 4 d nm v y 3 (H p o g k t)=ck 4 d nm v y (H p o (put g d (A1 (g d) nm v)) k t):=by
 have go:∀x,Cl x->bU n 4 d nm v y 3 (H p o (put g d x) k t)=ck 4 d nm v y (H p o (put g d (A1 x nm v)) k t):=λx hx=>aj (G:=λv=>bU n 4 d nm v y 3 (H p o (put g d x) k t)=ck 4 d nm v y (H p o (put g d (A1 x nm v)) k t)) hq
  (λi=>bC (F:=λd nm x=>bU n 4 d nm (.int i) y 3 (H p o (put g d x) k t)) (OJ:=λd nm x=>ck 4 d nm (.int i) y (H p o (put g d (A1 x nm (.int i))) k t)) (by rfl') (λf=>by rfl') hd hn hx)
  λi=>bC (F:=λd nm x=>bU n 4 d nm (.str i) y 3 (H p o (put g d x) k t)) (OJ:=λd nm x=>ck 4 d nm (.str i) y (H p o (put g d (A1 x nm (.str i))) k t)) (by rfl') (λf=>by rfl') hd hn hx
 have q:=go (g d) hc
 rw[o9]at q
 exact q
theorem Ii (hd:d < 6) (hn:nm∈V7) (hc:Cl (g d)):bU n 5 d nm v y 4 (H p o g k t)=ck 5 d nm v y (H p o (put g d (ae (g d) nm)) k t):=by
 have q:=bC (F:=λd nm x=>bU n 5 d nm v y 4 (H p o (put g d x) k t)) (OJ:=λd nm x=>ck 5 d nm v y (H p o (put g d (ae x nm)) k t)) (by rfl') (λf=>by rfl') hd hn hc
 rw[o9]at q
 exact q
end
noncomputable def dm:S->X
 |.ite c _ _=>c
 |_=>.lit .none
section
variable {y:V} {L:List Txt} (n:Nat)
theorem Eb (hd:d < 6) (hn:nm∈V7) (hc:Cl (g d)):(b9 pg (n+12)).tr (L4 2 d nm v [] y) (dm (cs 2)) (H p o g k t)=.ok (c3 (fo (g d) nm)) (H p o g k t):=by
 have hd':=Py hd
 have go:∀x,Cl x->(b9 pg (n+12)).tr (L4 2 d nm v [] y) (dm (cs 2)) (H p o (put g d x) k t)=.ok (c3 (fo x nm)) (H p o (put g d x) k t):=λx hx=>by
  induction hx with
  |emp=>exact Y3 (γ:=R Bool) (a:=d) (b:=nm) (f:=λd nm=>(b9 pg (n+12)).tr (L4 2 d nm v [] y) (dm (cs 2)) (H p o (put g d .emp) k t)) (h:=λd nm=>.ok (c3 (fo .emp nm)) (H p o (put g d .emp) k t)) (by rfl') hd' hn
  |map f=>
   have e:t9 f nm (f nm)=f:=E6
   rw[←e]
   induction f nm with
   |none=>exact Y3 (γ:=R Bool) (a:=d) (b:=nm) (f:=λd nm=>(b9 pg (n+12)).tr (L4 2 d nm v [] y) (dm (cs 2)) (H p o (put g d (.map (t9 f nm none))) k t)) (h:=λd nm=>.ok (c3 (fo (.map (t9 f nm none)) nm)) (H p o (put g d (.map (t9 f nm none))) k t)) (by rfl') hd' hn
   |some u=>exact Y3 (γ:=R Bool) (a:=d) (b:=nm) (f:=λd nm=>(b9 pg (n+12)).tr (L4 2 d nm v [] y) (dm (cs 2)) (H p o (put g d (.map (t9 f nm (some u)))) k t)) (h:=λd nm=>.ok (c3 (fo (.map (t9 f nm (some u))) nm)) (H p o (put g d (.map (t9 f nm (some u)))) k t)) (by rfl') hd' hn
 have q:=go (g d) hc
 rw[o9]at q
 exact q
theorem Iz {x:O}:(H p o g k (t++[x]))[t.length+42]? =some x:=(show(t++[x])[t.length]? =some x from List.getElem?_concat_length)
theorem Cg {x y:O}:(H p o g k (t++[x])).set (t.length+42) y=H p o g k (t++[y]):=OY (H p o g k) ((List.set_append_right _ _ (Pw _)).trans (by rw[Nat.sub_self];rfl))
theorem Ik (hd:d < 6) (hn:nm∈V7) (hc:Cl (g d)) (hk:k d=t.length+42) (hl:L.length≤100):bU n 2 d nm v y 2 (H p o g k (t++[.list (L.map .str)]))=ck 2 d nm v y (H p o g k (t++[.list ((L++bif c3 (fo (g d) nm)then[nm]else[]).map .str)])):=by
 have ht:=Eb (p:=p) (o:=o) (k:=k) (t:=t++[.list (L.map .str)]) (v:=v) (y:=y) n hd hn hc
 cases e:c3 (fo (g d) nm)with
 |false=>
  rw[e]at ht
  refine N5 (n:=n+11) ht ?_
  rw[cond_false,Pl]
  rfl
 |true=>
  rw[e]at ht
  have ho:(b9 pg (n+10)).ev (L4 2 d nm v [] y) (.sub (.OK 34) (.lit (V.str [110,111]))) (H p o g k (t++[.list (L.map .str)]))=.ok (.loc (t.length+42)) (H p o g k (t++[.list (L.map .str)])):=by
   rw[←hk]
   exact M1 (β:=R V) (f:=λd=>(b9 pg (n+10)).ev (L4 2 d nm v [] y) (.sub (.OK 34) (.lit (V.str [110,111]))) (H p o g k (t++[.list (L.map .str)]))) (h:=λd=>.ok (.loc (k d)) (H p o g k (t++[.list (L.map .str)]))) (by rfl') hd
  refine(bh (n:=n+11) ht ((c6 (C3 (Nk (a:=nm) ho Iz rfl (by rw[OZ];exact OV hl (by decide))))).trans g5)).trans ?_
  rw[Cg,cond_true,List.map_append]
  rfl
def xw (n:Nat) (w:Int) (d:Nat) (nm:Txt) (v y:V) (p o g:Nat->O) (k:Nat->Nat) (t:List O) (o' g':Nat->O) (N':Nat->List Txt):Prop:=
 ∃k' t',a8 pg (b9 pg (n+73)) (L4 w d nm v [] y) (f9.body.drop 5) (H p o g k t)=.ok (.ret (.bool true),L4 w d nm v [] y) (H p o' g' k' t')∧Wd p o' g' k' t' N'
theorem yS {o' g':Nat->O} {k':Nat->Nat} {t':List O} {N':Nat->List Txt} (h:a8 pg (b9 pg (n+72)) (L4 w d nm v [] y) [cs 0,cs 1,cs 2,cs 3,cs 4] (H p o g k t)=.ok (.next,L4 w d nm v [] y) (H p o' g' k' t')) (hw:Wd p o' g' k' t' N'):xw n w d nm v y p o g k t o' g' N':=
 ⟨k',t',(c6 (bh (n:=n+72) rfl h)).trans (s9 (B2 rfl rfl rfl)),hw⟩
variable (ww:Wd p o g k t N) (hd:d < 6) (hn:nm∈V7) (hl:(N d).length≤60) (hv:quiet v=true) (hy:quiet y=true)
include ww hd hn hl hv hy
theorem Gk (hw:w∈[(0:Int),1]) (hq:isQ v=true):xw n w d nm v y p o g k t (put o d (A1 (o d) nm v)) g (put N d ((N d).filter (t7 w nm))):=
 have h6:w∈[(0:Int),1,2,3,4,5]:=OQ [2,3,4,5] hw
 have h5:w∈[(0:Int),1,3,4,5]:=OQ [3,4,5] hw
 have h3:w∈[(0:Int),1,2,3,5]:=OQ [2,3,5] hw
 have h4:w∈[(0:Int),1,2,3,4]:=OQ [2,3,4] hw
 yS n ((c6 (pI (n+60) hv hy h6 ww hd hl)).trans ((c6 (Il (n+60) hw hq hd hn (ww.o d hd))).trans ((c6 (lR (n+60) h5)).trans ((c6 (lQ (n+60) h3)).trans ((c6 (lP (n+60) h4)).trans g5))))) ((ww.yy (d:=d) (ns:=(N d).filter (t7 w nm))).Ge .A1)
theorem Gm:xw n 2 d nm v y p o g k t (put o d (ae (o d) nm)) g (put N d ((N d).filter (t7 2 nm)++bif c3 (fo (g d) nm)then[nm]else[])):=
 yS n ((c6 (pI (n+60) hv hy (by decide) ww hd hl)).trans ((c6 (AP (n+60) (by decide) hd hn (ww.o d hd))).trans ((c6 (Ik (n+60) hd hn (ww.g d hd) w4 (OV (List.length_filter_le _ _) (OV hl (by decide))))).trans ((c6 (lQ (n+60) (by decide))).trans ((c6 (lP (n+60) (by decide))).trans g5))))) ((ww.yy (d:=d)).Ge (ww.o d hd).ae)
theorem Cr:xw n 3 d nm v y p o g k t (put o d (ae (o d) nm)) g (put N d ((N d).filter (t7 3 nm))):=
 yS n ((c6 (pI (n+60) hv hy (by decide) ww hd hl)).trans ((c6 (AP (n+60) (by decide) hd hn (ww.o d hd))).trans ((c6 (lR (n+60) (by decide))).trans ((c6 (lQ (n+60) (by decide))).trans ((c6 (lP (n+60) (by decide))).trans g5))))) ((ww.yy (d:=d)).Ge (ww.o d hd).ae)
theorem Gl (hq:isQ v=true):xw n 4 d nm v y p o g k t o (put g d (A1 (g d) nm v)) (put N d ((N d).filter (t7 4 nm))):=
 yS n ((c6 (pI (n+60) hv hy (by decide) ww hd hl)).trans ((c6 (AQ (n+60) (by decide))).trans ((c6 (lR (n+60) (by decide))).trans ((c6 (Ij (n+60) hq hd hn (ww.g d hd))).trans ((c6 (lP (n+60) (by decide))).trans g5))))) ((ww.yy (d:=d)).Jp .A1)
theorem Cq:xw n 5 d nm v y p o g k t o (put g d (ae (g d) nm)) (put N d ((N d).filter (t7 5 nm))):=
 yS n ((c6 (pI (n+60) hv hy (by decide) ww hd hl)).trans ((c6 (AQ (n+60) (by decide))).trans ((c6 (lR (n+60) (by decide))).trans ((c6 (lQ (n+60) (by decide))).trans ((c6 (Ii (n+60) hd hn (ww.g d hd))).trans g5))))) ((ww.yy (d:=d)).Jp (ww.g d hd).ae)
end
inductive cQ (nm:Txt):Option V->Option V->Prop
 |none:cQ nm none none
 |some (i:Int) (v:V) (a:Acc nm v i):cQ nm (some (.int i)) (some v)
noncomputable def z3 (ns:List Txt) (nm:Txt):Bool:=ns.any λy=>r5 y nm
structure Dir (f a b:Txt->Option V) (ns:List Txt):Prop where
 keys:∀q,f q≠none->∃nm,nm∈V7∧(q=nm∨q=nm++y3∨q=nm++u4)
 ka:∀q,a q≠none->q∈V7
 kg:∀q,b q≠none->q∈V7
 own:∀nm,nm∈V7->cQ nm (f nm) (a nm)
 got:∀nm,nm∈V7->cQ nm (f (nm++u4)) (b nm)
 Kf:∀nm,nm∈V7->c3 (f (nm++y3))=z3 ns nm
 My:∀nm,nm∈V7->z3 ns nm=true->b nm≠none
variable {a f:Txt->Option V}
section
variable {x y:Txt} {b:Txt->Option V} {ns:List Txt}
theorem xG (h:x∈V7):x.any (Nat.beq 36)=false:=e8 (f:=λx:Txt=>x.any (Nat.beq 36)) (h:=λJ=>false) (by rfl') h
theorem X8 {k:Txt} (h:k.any (Nat.beq 36)=true):(y++k).any (Nat.beq 36)=true:=by rw[List.any_append,h,Bool.or_true]
theorem fO (h:x∈V7):x≠y++y3:=λe=>Bool.noConfusion ((xG h).symm.trans (e▸X8 rfl))
theorem da (h:x∈V7):x≠y++u4:=λe=>Bool.noConfusion ((xG h).symm.trans (e▸X8 rfl))
theorem P4:x++y3≠y++u4:=λe=>by
 have e:=OY List.reverse e
 rw[List.reverse_append,List.reverse_append]at e
 exact nomatch (List.cons.inj (show(116:Nat)::_=100::_ from e)).1
theorem jF:z3 (ns.filter (t7 w nm)) x=(z3 ns x&&t7 w nm x):=by
 induction ns with
 |nil=>rfl
 |cons z r ih=>
  rw[List.filter_cons]
  show _=((r5 z x || z3 r x)&&t7 w nm x)
  cases e2:r5 z x with
  |false=>induction t7 w nm z with
   |true=>exact(show(r5 z x || z3 (r.filter (t7 w nm)) x)=_ by rw[e2,ih];rfl)
   |false=>exact ih
  |true=>
   rw[Mine.D1.mp e2]
   cases e:t7 w nm x with
   |true=>exact(show(r5 x x || z3 (r.filter (t7 w nm)) x)=_ by rw[G8];rfl)
   |false=>exact ih.trans (by rw[e,Bool.and_false,Bool.and_false])
theorem jE:z3 (ns++[nm]) x=(z3 ns x || r5 nm x):=by
 unfold z3
 rw[List.any_append]
 exact OY _ (Bool.or_false _)
theorem Dl (h:x≠nm):t7 w nm x=true:=by unfold t7;rw[lU h];rfl
theorem Dm (h:w≠4):t7 w nm nm=false:=by unfold t7;rw[G8,decide_eq_false h];rfl
theorem zG {z:Txt}:t7 4 nm z=true:=Bool.or_true _
theorem Dir.turn (h:Dir f a b ns) (hn:nm∈V7) {f' a' b':Txt->Option V} {ns':List Txt} (hf:∀q,q≠nm->q≠nm++y3->q≠nm++u4->f' q=f q) (ha:∀q,q≠nm->a' q=a q) (hb:∀q,q≠nm->b' q=b q) (hs:∀q,q≠nm->z3 ns' q=z3 ns q)
 (h1:cQ nm (f' nm) (a' nm)) (h2:cQ nm (f' (nm++u4)) (b' nm)) (h3:c3 (f' (nm++y3))=z3 ns' nm) (h4:z3 ns' nm=true->b' nm≠none):Dir f' a' b' ns':=
 have em:∀{q r:Txt} {G:Prop},(q=r->G)->(q≠r->G)->G:=λ{q r G}=>(inferInstance:Decidable (q=r)).byCases
 {keys:=λq e=>em (q:=q) (r:=nm) (λz=>⟨nm,hn,.inl z⟩) λe1=>em (q:=q) (r:=nm++y3) (λz=>⟨nm,hn,.inr (.inl z)⟩) λe2=>em (q:=q) (r:=nm++u4) (λz=>⟨nm,hn,.inr (.inr z)⟩) λe3=>h.keys q (hf q e1 e2 e3▸e)
  ka:=λq e=>em (q:=q) (r:=nm) (λz=>z▸hn) λe1=>h.ka q (ha q e1▸e)
  kg:=λq e=>em (q:=q) (r:=nm) (λz=>z▸hn) λe1=>h.kg q (hb q e1▸e)
  own:=λx hx=>em (q:=x) (r:=nm) (λz=>z▸h1) λe1=>by rw[ha x e1,hf x e1 (fO hx) (da hx)];exact h.own x hx
  got:=λx hx=>em (q:=x) (r:=nm) (λz=>z▸h2) λe1=>by rw[hb x e1,hf _ (Ne.symm (da hn)) (Ne.symm P4) λe=>e1 (List.append_cancel_right e)];exact h.got x hx
  Kf:=λx hx=>em (q:=x) (r:=nm) (λz=>z▸h3) λe1=>by rw[hs x e1,hf _ (Ne.symm (fO hn)) (λe=>e1 (List.append_cancel_right e)) P4];exact h.Kf x hx
  My:=λx hx=>em (q:=x) (r:=nm) (λz=>z▸h4) λe1=>by rw[hs x e1,hb x e1];exact h.My x hx}
theorem cQ.aK {p q:Option V} (h:cQ nm p q):c3 q=c3 p:=by induction h<;>rfl
theorem T8 (hw:w≠4):z3 (ns.filter (t7 w nm)) nm=false:=by rw[jF,Dm hw,Bool.and_false]
theorem oB {q:Txt} (e:q≠nm):z3 (ns.filter (t7 w nm)) q=z3 ns q:=by rw[jF,Dl e,Bool.and_true]
theorem dS {G:Prop} (hw:w≠4) (e:z3 (ns.filter (t7 w nm)) nm=true):G:=Bool.noConfusion ((T8 hw).symm.trans e)
theorem GB (h:Dir f a b ns) (hn:nm∈V7) (hA:Acc nm v i) (hw:w≠4):Dir (t9 (t9 f nm (some (.int i))) (nm++y3) none) (t9 a nm (some v)) b (ns.filter (t7 w nm)):=
 h.turn hn (λq e1 e2 e3=>(l0 (Ne.symm e2)).trans (l0 (Ne.symm e1))) (λq e=>l0 (Ne.symm e)) (λq e=>rfl) (λq e=>oB e) (by rw[l0 (Ne.symm (fO hn)),u5,u5];exact .some i v hA)
  (by rw[l0 P4,l0 (da hn)];exact h.got nm hn) (by rw[u5,T8 hw];rfl) (dS hw)
theorem CD (h:Dir f a b ns) (hn:nm∈V7) (hw:w≠4):Dir (t9 (t9 f nm none) (nm++y3) none) (t9 a nm none) b (ns.filter (t7 w nm)):=
 h.turn hn (λq e1 e2 e3=>(l0 (Ne.symm e2)).trans (l0 (Ne.symm e1))) (λq e=>l0 (Ne.symm e)) (λq e=>rfl) (λq e=>oB e) (by rw[l0 (Ne.symm (fO hn)),u5,u5];exact .none)
  (by rw[l0 P4,l0 (da hn)];exact h.got nm hn) (by rw[u5,T8 hw];rfl) (dS hw)
theorem GC (h:Dir f a b ns) (hn:nm∈V7) (hA:Acc nm v i):Dir (t9 f (nm++u4) (some (.int i))) a (t9 b nm (some v)) (ns.filter (t7 4 nm)):=by
 rw[show ns.filter (t7 4 nm)=ns from List.filter_eq_self.mpr λJ J=>zG]
 exact h.turn hn (λq e1 e2 e3=>l0 (Ne.symm e3)) (λq e=>rfl) (λq e=>l0 (Ne.symm e)) (λq e=>rfl) (by rw[l0 (Ne.symm (da hn))];exact h.own nm hn)
  (by rw[u5,u5];exact .some i v hA) (by rw[l0 (Ne.symm P4)];exact h.Kf nm hn) (λe=>by rw[u5];exact nofun)
theorem CC (h:Dir f a b ns) (hn:nm∈V7) (hw:w≠4):Dir (t9 (t9 f (nm++y3) none) (nm++u4) none) a (t9 b nm none) (ns.filter (t7 w nm)):=
 h.turn hn (λq e1 e2 e3=>(l0 (Ne.symm e3)).trans (l0 (Ne.symm e2))) (λq e=>rfl) (λq e=>l0 (Ne.symm e)) (λq e=>oB e) (by rw[l0 (Ne.symm (da hn)),l0 (Ne.symm (fO hn))];exact h.own nm hn)
  (by rw[u5,u5];exact .none) (by rw[l0 (Ne.symm P4),u5,T8 hw];rfl) (dS hw)
theorem GD {z:O} (h:Dir (fo z) a b ns) (hn:nm∈V7):Dir (fo (cZ (cut z nm) nm)) (t9 a nm none) b (ns.filter (t7 2 nm)++bif c3 (b nm)then[nm]else[]):=by
 have hg:=h.got nm hn
 have hm:=h.My nm hn
 have er:fo (cut z nm) (nm++u4)=fo z (nm++u4):=by rw[Q5];exact l0 (da hn)
 have ef:∀q,q≠nm->fo (cut z nm) q=fo z q:=λq e=>by rw[Q5];exact l0 (Ne.symm e)
 have e0:fo (cut z nm) nm=none:=by rw[Q5];exact u5
 unfold cZ
 rw[hg.aK,er]
 cases e:c3 (fo z (nm++u4))with
 |false=>
  have hb:b nm=none:=by
   have q:=hg.aK
   rw[e]at q
   induction hbn:b nm with
   |none=>rfl
   |some _=>rw[hbn]at q;exact Bool.noConfusion q
  have hh:z3 ns nm=false:=by
   cases e2:z3 ns nm with
   |false=>rfl
   |true=>exact absurd hb (hm e2)
  rw[cond_false,cond_false,Pl]
  exact h.turn hn (λq e1 J J=>ef q e1) (λq e=>l0 (Ne.symm e)) (λq e=>rfl) (λq e=>oB e) (by rw[e0,u5];exact .none) (by rw[er];exact hg) (by rw[ef _ (Ne.symm (fO hn)),h.Kf nm hn,hh,T8 (by decide)]) (dS (by decide))
 |true=>
  rw[cond_true,cond_true]
  refine h.turn hn (λq e1 e2 J=>(l0 (Ne.symm e2)).trans (ef q e1)) (λq e=>l0 (Ne.symm e)) (λq e=>rfl) (λq e=>by rw[jE,oB e,lU (Ne.symm e),Bool.or_false]) ?_ ?_ ?_ λJ=>?_
  ·rw[show fo (A1 (cut z nm) (nm++y3) (.int 1)) nm=none from(l0 (Ne.symm (fO hn))).trans e0,u5];exact .none
  ·rw[show fo (A1 (cut z nm) (nm++y3) (.int 1)) (nm++u4)=_ from(l0 P4).trans er];exact hg
  ·rw[jE,G8,Bool.or_true,show fo (A1 (cut z nm) (nm++y3) (.int 1)) (nm++y3)=_ from u5];rfl
  ·intro hb
   have q:=hg.aK
   rw[e,hb]at q
   exact Bool.noConfusion q
end
structure Wk (c:Nat) (p o g:Nat->O) (k:Nat->Nat) (t:List O) (N:Nat->List Txt):Prop where
 w:Wd p o g k t N
 d:∀d,d < 6->Dir (fo (p d)) (fo (o d)) (fo (g d)) (N d)
 l:∀d,d < 6->(N d).length≤c
inductive St (c:Nat):Hp->Prop
 |mk (p o g:Nat->O) (k:Nat->Nat) (t:List O) (N:Nat->List Txt) (w:Wk c p o g k t N):St c (H p o g k t)
section
def L9 (n c:Nat) (Y:Hp) (w:Int) (d:Nat) (nm:Txt) (v:V):Prop:=∃c7,(b9 pg (n+75)).run 54 [.loc 1,.loc 8,.int w,.int (Int.ofNat d),.str nm,v] Y=.ok (.bool true) c7∧St (c+1) c7
theorem fB (n:Nat) {m:Fr} {due:Txt} {y:V} {c7 u3:Hp} (hd:d < 6) (e1:a8 pg (b9 pg (n+73)) (L1 w d nm v) ((f9.body.drop 1).take 2) (H p o g k t)=.ok (.next,L3 w d nm v due) (H p o g k t)) (e3:a8 pg (b9 pg (n+73)) (L3 w d nm v due) ((f9.body.drop 3).take 1) (H p o g k t)=.ok (.next,L4 w d nm v due y) c7)
 (e4:a8 pg (b9 pg (n+73)) (L4 w d nm v due y) (f9.body.drop 4) c7=.ok (.ret (.bool true),m) u3):(b9 pg (n+75)).run 54 [.loc 1,.loc 8,.int w,.int (Int.ofNat d),.str nm,v] (H p o g k t)=.ok (.bool true) u3:=
 t8 (n:=n+74) (fd:=f9) (m:=L0 w d nm v) rfl rfl ((z4 1 (Mo n hd)).trans ((z4 2 e1).trans ((z4 (b:=f9.body.drop 3) 1 e3).trans e4)))
theorem nO (n:Nat) {y:V} {due:Txt} {Y:Hp} {r:R (Fl×Fr)} (h:a8 pg (b9 pg (n+73)) (L4 w d nm v due y) ((f9.body.drop 4).take 1) Y=.ok (.next,L4 w d nm v due y) Y) (h5:a8 pg (b9 pg (n+73)) (L4 w d nm v due y) (f9.body.drop 5) Y=r):a8 pg (b9 pg (n+73)) (L4 w d nm v due y) (f9.body.drop 4) Y=r:=(z4 (b:=f9.body.drop 4) 1 h).trans h5
theorem Mv {α β γ δ:Type} {Q:α->β->γ->δ->Prop} {f:Nat->α} {a:Nat->β} {b:Nat->γ} {s:Nat->δ} (h:∀e,e < 6->Q (f e) (a e) (b e) (s e)) {f':α} {a':β} {b':γ} {s':δ} (hz:Q f' a' b' s'):∀e,e < 6->Q (put f d f' e) (put a d a' e) (put b d b' e) (put s d s' e):=λe he=>
 (Nat.decEq e d).byCases (λq=>by rw[q,w4,w4,w4,w4];exact hz) λq=>by rw[K2 q,K2 q,K2 q,K2 q];exact h e he
theorem Wk.more (x:Wk c p o g k t N):Wk (c+1) p o g k t N:=⟨x.w,x.d,λd hd=>Nat.le_succ_of_le (x.l d hd)⟩
theorem Wk.go (x:Wk c p o g k t N) (hd:d < 6) {xp xo xg:O} {ns:List Txt} {k':Nat->Nat} {t':List O} (w:Wd (put p d xp) (put o d xo) (put g d xg) k' t' (put N d ns)) (hD:Dir (fo xp) (fo xo) (fo xg) ns) (hl:ns.length≤(N d).length+1):Wk (c+1) (put p d xp) (put o d xo) (put g d xg) k' t' (put N d ns):=
 ⟨w,Mv (Q:=λa b c s=>Dir (fo a) (fo b) (fo c) s) x.d hD,dO (Q:=λJ (s:List Txt)=>s.length≤c+1) (λe he=>Nat.le_succ_of_le (x.l e he)) (OV hl (Nat.succ_le_succ (x.l d hd)))⟩
theorem DC {w:Int} {nm:Txt} {ns:List Txt}:(ns.filter (t7 w nm)).length≤ns.length+1:=Nat.le_succ_of_le (List.length_filter_le _ _)
variable (n:Nat) (x:Wk c p o g k t N) (hc:c≤50) (hd:d < 6)
include x hc hd
theorem xN (a:Acc nm v i) (pv:Pv v) (hw:w∈[(0:Int),1]):L9 (n+10) c (H p o g k t) w d nm v:=by
 have s:=Gg (o:=o) (g:=g) (k:=k) (t:=t) a pv hd (x.w.p d hd) (n+10)
 have hw2:=x.w.yw (d:=d) (x.w.p d hd).A1.cut (x:=cut (A1 (p d) nm (.int i)) (nm++y3))
 obtain⟨k',t',e5,w5⟩:=Gk (y:=yN) (w:=w) (n+10) hw2 hd a.key (OV (x.l d hd) (OV hc (by decide))) pv.qt rfl hw a.q
 have hDo:iR (n+10) (H p o g k t) d nm v (.ok .none (H (put p d (cut (A1 (p d) nm (.int i)) (nm++y3))) o g k t)) w:=(OW hw).elim (λe=>e▸.s0 s) λe=>OX e▸.s1 s
 have e3:=qM (n+10) (due:=[]) pv hDo (.ok .none _ rfl)
 have h4:w∈[(0:Int),1,2,3,4]:=OQ [2,3,4] hw
 have hS:w∈WS:=OQ [4] hw
 refine⟨_,fB (n+10) hd (Gj (n+10) hS pv a.ref) e3 (nO (n+10) (Cn (n+10) h4) e5),?_⟩
 have hD:=GB (w:=w) (x.d d hd) a.key a (λe=>absurd (e▸hw) (by decide))
 have eg:put g d (g d)=g:=o9
 rw[←eg]at w5⊢
 exact .mk _ _ _ _ _ _ (x.go hd w5 (by rw[Q5,uf,uf];exact hD) DC)
theorem xO (a:Acc nm v i) (pv:Pv v):L9 (n+10) c (H p o g k t) 4 d nm v:=by
 have s:=Gr (o:=o) (g:=g) (k:=k) (t:=t) a pv hd (x.w.p d hd) (n+7)
 obtain⟨k',t',e5,w5⟩:=Gl (y:=yN) (n+10) (x.w.yw (d:=d) (x.w.p d hd).A1) hd a.key (OV (x.l d hd) (OV hc (by decide))) pv.qt rfl a.q
 refine⟨_,fB (n+10) hd (Gj (n+10) (by decide) pv a.ref) (qM (n+10) (due:=[]) pv (.s4 s) (.ok .none _ rfl)) (nO (n+10) (Cn (n+10) (by decide)) e5),?_⟩
 have hD:=GC (x.d d hd) a.key a
 have eo:put o d (o d)=o:=o9
 rw[←eo]at w5⊢
 exact .mk _ _ _ _ _ _ (x.go hd w5 hD DC)
theorem nj (a:Ma nm v) (hn:nm∈NM) (pv:Pv v) (hw:w∈WS):L9 (n+10) c (H p o g k t) w d nm v:=by
 have h6:w∈[(0:Int),1,2,3,4,5]:=(by decide:∀w∈WS,w∈[(0:Int),1,2,3,4,5]) w hw
 have hD:iR (n+10) (H p o g k t) d nm v (.exc (il nm) (H p o g k t)) w:=(OW hw).elim (λe=>e▸.s0 (tp a pv _)) λhw=>(OW hw).elim (λe=>e▸.s1 (tp a pv _)) λe=>OX e▸.s4 (Cu a pv (n+7))
 exact⟨_,fB (n+10) hd (Gj (n+10) hw pv a.ref) (qM (n+10) pv hD (.exc _ _)) (EF (n+10) h6 hn),.mk _ _ _ _ _ _ x.more⟩
theorem uM (hn:nm∈NM) (hb:B6 nm=true) (pv:Pv v) (hw:w∈WO):L9 (n+10) c (H p o g k t) w d nm v:=by
 have em:il nm=I4 nm:=by unfold il;rw[hb];rfl
 have ed:iJ nm=il nm:=by rw[em];unfold iJ;rw[hb];rfl
 have h6:w∈[(0:Int),1,2,3,4,5]:=(by decide:∀w∈WO,w∈[(0:Int),1,2,3,4,5]) w hw
 have hD:iR (n+10) (H p o g k t) d nm v (.exc (il nm) (H p o g k t)) w:=em▸(OW hw).elim (λe=>e▸.s2 (tS (b:=false) rfl hn hb (n+9))) λhw=>(OW hw).elim (λe=>e▸.s3 (tS (b:=true) rfl hn hb (n+8))) λe=>OX e▸.s5 (Aq hn hb (n+7))
 have e2:=Co (d:=d) (v:=v) (n+10) (Y:=H p o g k t) hw hn
 rw[ed]at e2
 exact⟨_,fB (n+10) hd e2 (qM (n+10) pv hD (.exc _ _)) (EF (n+10) h6 hn),.mk _ _ _ _ _ _ x.more⟩
theorem xP (hn:nm∈NM) (hb:B6 nm=false) (pv:Pv v):L9 (n+10) c (H p o g k t) 2 d nm v:=by
 have hk:=fP hn hb
 have s:=Ht (o:=o) (g:=g) (k:=k) (t:=t) hn hb hd (x.w.p d hd) (n+9)
 have hp:A6 (cZ (cut (p d) nm) nm):=by
  unfold cZ
  induction c3 (fo (cut (p d) nm) (nm++u4))with
  |true=>exact(x.w.p d hd).cut.A1
  |false=>exact(x.w.p d hd).cut
 obtain⟨k',t',e5,w5⟩:=Gm (v:=v) (y:=yN) (n+10) (x.w.yw (d:=d) hp) hd hk (OV (x.l d hd) (OV hc (by decide))) pv.qt rfl
 have e2:=Co (d:=d) (v:=v) (n+10) (Y:=H p o g k t) (w:=2) (by decide) hn
 rw[show iJ nm=[]from by unfold iJ;rw[hb];rfl]at e2
 refine⟨_,fB (n+10) hd e2 (qM (n+10) pv (.s2 s) (.ok .none _ rfl)) (nO (n+10) (Cn (n+10) (by decide)) e5),?_⟩
 have hD:=GD (x.d d hd) hk
 have eg:put g d (g d)=g:=o9
 rw[←eg]at w5⊢
 refine .mk _ _ _ _ _ _ (x.go hd w5 (by rw[lr (x.w.o d hd),w4];exact hD) ?_)
 rw[List.length_append]
 refine Nat.add_le_add (List.length_filter_le _ _) ?_
 induction c3 (fo (put g d (g d) d) nm)with
 |true=>exact Pw _
 |false=>exact Nat.zero_le _
theorem uO (hn:nm∈NM) (hb:B6 nm=false) (pv:Pv v):L9 (n+10) c (H p o g k t) 3 d nm v:=by
 have hk:=fP hn hb
 have s:=Dr (o:=o) (g:=g) (k:=k) (t:=t) hn hb hd (x.w.p d hd) (n+8)
 obtain⟨k',t',e5,w5⟩:=Cr (v:=v) (y:=yN) (n+10) (x.w.yw (d:=d) (x.w.p d hd).cut.cut) hd hk (OV (x.l d hd) (OV hc (by decide))) pv.qt rfl
 have e2:=Co (d:=d) (v:=v) (n+10) (Y:=H p o g k t) (w:=3) (by decide) hn
 rw[show iJ nm=[]from by unfold iJ;rw[hb];rfl]at e2
 refine⟨_,fB (n+10) hd e2 (qM (n+10) pv (.s3 s) (.ok .none _ rfl)) (nO (n+10) (Cn (n+10) (by decide)) e5),?_⟩
 have hD:=CD (w:=3) (x.d d hd) hk (by decide)
 have eg:put g d (g d)=g:=o9
 rw[←eg]at w5⊢
 exact .mk _ _ _ _ _ _ (x.go hd w5 (by rw[lr (x.w.o d hd),Q5,Q5];exact hD) DC)
theorem uN (hn:nm∈NM) (hb:B6 nm=false) (pv:Pv v):L9 (n+10) c (H p o g k t) 5 d nm v:=by
 have hk:=fP hn hb
 have s:=eD (o:=o) (g:=g) (k:=k) (t:=t) hn hb hd (x.w.p d hd) (n+7)
 have er:c3 (fo (g d) nm)=c3 (fo (cut (p d) (nm++y3)) (nm++u4)):=by
  rw[Q5,l0 P4];exact((x.d d hd).got nm hk).aK
 obtain⟨k',t',e5,w5⟩:=Cq (v:=v) (y:=.tup [.str [],.bool (c3 (fo (cut (p d) (nm++y3)) (nm++u4)))]) (n+10) (x.w.yw (d:=d) (x.w.p d hd).cut.cut) hd hk (OV (x.l d hd) (OV hc (by decide))) pv.qt rfl
 have e2:=Co (d:=d) (v:=v) (n+10) (Y:=H p o g k t) (w:=5) (by decide) hn
 rw[show iJ nm=[]from by unfold iJ;rw[hb];rfl]at e2
 refine⟨_,fB (n+10) hd e2 (qM (n+10) pv (.s5 s) (.ok (.bool _) _ rfl)) (nO (n+10) (Js (n+10) hd hk (x.w.g d hd) er) e5),?_⟩
 have hD:=CC (w:=5) (x.d d hd) hk (by decide)
 have eo:put o d (o d)=o:=o9
 rw[←eo]at w5⊢
 exact .mk _ _ _ _ _ _ (x.go hd w5 (by rw[lr (x.w.g d hd),Q5,Q5];exact hD) DC)
end
theorem KI (n:Nat) {c:Nat} {Y:Hp} {w:Int} {d:Nat} {nm:Txt} {v:V} (s:St c Y) (hc:c≤50) (hw:w∈[(0:Int),1,2,3,4,5]) (hd:d < 6) (hn:nm∈NM) (hv:(nm,v)∈NV):L9 (n+10) c Y w d nm v:=by
 induction s with
 |mk p o g k t N x=>
  have pv:Pv v:=EI hv
  have ha:∀{w:Int},w∈[(0:Int),1]->L9 (n+10) c (H p o g k t) w d nm v:=λ{w} hw=>(fN hv).elim (λ⟨i,a⟩=>xN n x hc hd a pv hw) λa=>nj n x hc hd a hn pv (OQ [4] hw)
  have hb:∀{w:Int},w∈WO->(B6 nm=false->L9 (n+10) c (H p o g k t) w d nm v)->L9 (n+10) c (H p o g k t) w d nm v:=λ{w} hw h=>by
   cases e:B6 nm with
   |true=>exact uM n x hc hd hn e pv hw
   |false=>exact h e
  exact(OW hw).elim (λe=>e▸ha (by decide)) λhw=>(OW hw).elim (λe=>e▸ha (by decide)) λhw=>(OW hw).elim (λe=>e▸hb (by decide) λe=>xP n x hc hd hn e pv) λhw=>(OW hw).elim (λe=>e▸hb (by decide) λe=>uO n x hc hd hn e pv) λhw=>
   (OW hw).elim (λe=>e▸(fN hv).elim (λ⟨i,a⟩=>xO n x hc hd a pv) λa=>nj n x hc hd a hn pv (by decide)) λe=>OX e▸hb (by decide) λe=>uN n x hc hd hn e pv
noncomputable def iU (f:Txt->Option V) (nm:Txt) (a b c:Option V):O:=.map (t9 (t9 (t9 f nm a) (nm++y3) b) (nm++u4) c)
noncomputable def cf (f:Txt->Option V) (nm:Txt):Option V:=(f nm).or (bif c3 (f (nm++y3))then none else f (nm++u4))
noncomputable def ai (a b:Option V) (h:Bool):Option V:=a.or (bif h then none else b)
section
variable {x:O} (n:Nat)
theorem xT {f:Txt->Option V}:iU f nm (f nm) (f (nm++y3)) (f (nm++u4))=.map f:=by
 unfold iU
 rw[E6,E6,E6]
theorem A6.iU {G:O->Prop} (h:A6 x) (nm:Txt) (h0:G .emp) (h1:∀f i b c,G (iU f nm (some (.int i)) b c)) (h2:∀f i c,G (iU f nm none (some (.int i)) c)) (h3:∀f,G (iU f nm none none none)) (h4:∀f i,G (iU f nm none none (some (.int i)))):G x:=by
 induction h with
 |emp=>exact h0
 |map f h=>
  rw[←xT (nm:=nm)]
  cases e1:f nm with
  |some v=>exact(h _ _ e1).elim λi e=>e▸h1 f i _ _
  |none=>
   cases e2:f (nm++y3)with
   |some v=>exact(h _ _ e2).elim λi e=>e▸h2 f i _
   |none=>
    cases e3:f (nm++u4)with
    |some v=>exact(h _ _ e3).elim λi e=>e▸h4 f i
    |none=>exact h3 f
noncomputable def mO (d:Nat) (nm:Txt):Fr:=[(41,.loc 1),(21,.int (ob d)),(14,.str nm),(32,.int (zp d))]
theorem vt (hd:d < 6):a8 pg (b9 pg (n+28)) [(41,.loc 1),(21,.int (ob d)),(14,.str nm)] (F3.body.take 1) (H p o g k t)=.ok (.next,mO d nm) (H p o g k t):=
 M1 (β:=R (Fl×Fr)) (f:=λd=>a8 pg (b9 pg (n+28)) [(41,.loc 1),(21,.int (ob d)),(14,.str nm)] (F3.body.take 1) (H p o g k t)) (h:=λd=>.ok (.next,mO d nm) (H p o g k t)) (by rfl') hd
noncomputable abbrev qZ (n:Nat) (Y:Hp) (d:Nat) (nm:Txt):R V:=(a8 pg (b9 pg (n+28)) (mO d nm) (F3.body.drop 1) Y).bind λp Y=>.ok (IX p.1) Y
theorem qY (hd:d < 6) (hn:nm∈N6) (hc:A6 (p d)):(b9 pg (n+30)).run 38 [.loc 1,.int (ob d),.str nm] (H p o g k t)=.ok ((cf (fo (p d)) nm).getD .none) (H p o g k t):=by
 have hd':=Py hd
 have go:∀x,A6 x->qZ n (H (put p d x) o g k t) d nm=.ok ((cf (fo x) nm).getD .none) (H (put p d x) o g k t):=λx hx=>hx.iU (G:=λx=>qZ n (H (put p d x) o g k t) d nm=.ok ((cf (fo x) nm).getD .none) (H (put p d x) o g k t)) nm
  (Y3 (f:=λd nm=>qZ n (H (put p d .emp) o g k t) d nm) (h:=λd nm=>.ok ((cf (fo .emp) nm).getD .none) (H (put p d .emp) o g k t)) (by rfl') hd' hn)
  (λf i b c=>Y3 (f:=λd nm=>qZ n (H (put p d (iU f nm (some (.int i)) b c)) o g k t) d nm) (h:=λd nm=>.ok ((cf (fo (iU f nm (some (.int i)) b c)) nm).getD .none) (H (put p d (iU f nm (some (.int i)) b c)) o g k t)) (by rfl') hd' hn)
  (λf i c=>Y3 (f:=λd nm=>qZ n (H (put p d (iU f nm none (some (.int i)) c)) o g k t) d nm) (h:=λd nm=>.ok ((cf (fo (iU f nm none (some (.int i)) c)) nm).getD .none) (H (put p d (iU f nm none (some (.int i)) c)) o g k t)) (by rfl') hd' hn)
  (λf=>Y3 (f:=λd nm=>qZ n (H (put p d (iU f nm none none none)) o g k t) d nm) (h:=λd nm=>.ok ((cf (fo (iU f nm none none none)) nm).getD .none) (H (put p d (iU f nm none none none)) o g k t)) (by rfl') hd' hn)
  (λf i=>Y3 (f:=λd nm=>qZ n (H (put p d (iU f nm none none (some (.int i)))) o g k t) d nm) (h:=λd nm=>.ok ((cf (fo (iU f nm none none (some (.int i)))) nm).getD .none) (H (put p d (iU f nm none none (some (.int i)))) o g k t)) (by rfl') hd' hn)
 have q:=go (p d) hc
 rw[o9]at q
 exact(show((a8 pg (b9 pg (n+28)) [(41,.loc 1),(21,.int (ob d)),(14,.str nm)] F3.body (H p o g k t)).bind λp Y=>R.ok (IX p.1) Y)=_ from by rw[z4 1 (vt n hd)];exact q)
theorem Av {ns:List Txt}:U3 (dat 8) (ns.map V.str)=some (ns.map D.str):=by
 induction ns with
 |nil=>rfl
 |cons a r ih=>
  show(U3 (dat 8) (r.map V.str)).map (D.str a:: ·)=_
  rw[ih];rfl
theorem Li {ns:List Txt}:((ns.map D.str).any λy=>jN y (D.str nm))=z3 ns nm:=by
 induction ns with
 |nil=>rfl
 |cons a r ih=>exact OY (r5 a nm ||·) ih
theorem Kg {i:Nat} {ns:List Txt} {Y:Hp} (h:Y[i]? =some (.list (ns.map .str))):IV (.str nm) (.loc i) Y=some (z3 ns nm):=by
 have e:rG (.str nm) (ns.map V.str)=some (z3 ns nm):=by
  show(U3 (dat 8) (ns.map V.str)).map (λds=>ds.any λy=>jN y (D.str nm))=_
  rw[Av]
  exact OY some Li
 show(((Y[i]?).bind (LM (.str nm))).or _)=_
 rw[h,show(some (O.list (ns.map V.str))).bind (LM (.str nm))=some (z3 ns nm)from e]
 rfl
noncomputable def mL (d:Nat) (nm:Txt):Fr:=[(34,.loc (rl d)),(14,.str nm)]
theorem He {i:V} (hi:(∃j,i=.int j)∨∃s,i=.str s) {f:Txt->Option V} (hd:d < 6) (hn:nm∈N6):a8 pg (b9 pg (n+18)) (mL d nm) A8.body (H p (put o d (.map (t9 f nm (some i)))) g k t)=.ok (.ret i,mL d nm) (H p (put o d (.map (t9 f nm (some i)))) g k t):=
 hi.elim (λ⟨i,e⟩=>e▸Y3 (γ:=R (Fl×Fr)) (a:=d) (b:=nm) (f:=λd nm=>a8 pg (b9 pg (n+18)) (mL d nm) A8.body (H p (put o d (.map (t9 f nm (some (.int i))))) g k t)) (h:=λd nm=>.ok (.ret (.int i),mL d nm) (H p (put o d (.map (t9 f nm (some (.int i))))) g k t)) (by rfl') (Py hd) hn)
  λ⟨i,e⟩=>e▸Y3 (γ:=R (Fl×Fr)) (a:=d) (b:=nm) (f:=λd nm=>a8 pg (b9 pg (n+18)) (mL d nm) A8.body (H p (put o d (.map (t9 f nm (some (.str i))))) g k t)) (h:=λd nm=>.ok (.ret (.str i),mL d nm) (H p (put o d (.map (t9 f nm (some (.str i))))) g k t)) (by rfl') (Py hd) hn
theorem Hc {x:O} (hx:x=.emp∨∃f,x=.map (t9 f nm none)) (hd:d < 6) (hn:nm∈N6):a8 pg (b9 pg (n+18)) (mL d nm) (A8.body.take 1) (H p (put o d x) g k t)=.ok (.next,mL d nm) (H p (put o d x) g k t):=
 hx.elim (λe=>e▸Y3 (γ:=R (Fl×Fr)) (a:=d) (b:=nm) (f:=λd nm=>a8 pg (b9 pg (n+18)) (mL d nm) (A8.body.take 1) (H p (put o d .emp) g k t)) (h:=λd nm=>.ok (.next,mL d nm) (H p (put o d .emp) g k t)) (by rfl') (Py hd) hn)
  λ⟨f,e⟩=>e▸Y3 (γ:=R (Fl×Fr)) (a:=d) (b:=nm) (f:=λd nm=>a8 pg (b9 pg (n+18)) (mL d nm) (A8.body.take 1) (H p (put o d (.map (t9 f nm none))) g k t)) (h:=λd nm=>.ok (.next,mL d nm) (H p (put o d (.map (t9 f nm none))) g k t)) (by rfl') (Py hd) hn
theorem Hf (hd:d < 6) (hn:nm∈N6) (hc:Cl (g d)):(b9 pg (n+16)).ev (mL d nm) (.l5 (.sub (.OK 34) (.lit (V.str [103,111,116]))) 1 [(.OK 14)]) (H p o g k t)=.ok ((fo (g d) nm).getD .none) (H p o g k t):=by
 have go:∀x,Cl x->(b9 pg (n+16)).ev (mL d nm) (.l5 (.sub (.OK 34) (.lit (V.str [103,111,116]))) 1 [(.OK 14)]) (H p o (put g d x) k t)=.ok ((fo x nm).getD .none) (H p o (put g d x) k t):=λx hx=>by
  induction hx with
  |emp=>exact Y3 (γ:=R V) (a:=d) (b:=nm) (f:=λd nm=>(b9 pg (n+16)).ev (mL d nm) (.l5 (.sub (.OK 34) (.lit (V.str [103,111,116]))) 1 [(.OK 14)]) (H p o (put g d .emp) k t)) (h:=λd nm=>.ok ((fo .emp nm).getD .none) (H p o (put g d .emp) k t)) (by rfl') (Py hd) hn
  |map f=>exact Y3 (γ:=R V) (a:=d) (b:=nm) (f:=λd nm=>(b9 pg (n+16)).ev (mL d nm) (.l5 (.sub (.OK 34) (.lit (V.str [103,111,116]))) 1 [(.OK 14)]) (H p o (put g d (.map f)) k t)) (h:=λd nm=>.ok ((fo (.map f) nm).getD .none) (H p o (put g d (.map f)) k t)) (by rfl') (Py hd) hn
 have q:=go (g d) hc
 rw[o9]at q
 exact q
theorem Ho (h:isQ v=true):(∃j,v=.int j)∨∃s,v=.str s:=aj (G:=λv=>(∃j,v=.int j)∨∃s,v=.str s) h (λi=>.inl ⟨i,rfl⟩) λs=>.inr ⟨s,rfl⟩
noncomputable def NJ:X:=.ite (.cmp (.OK 14) [(.R8,(.sub (.OK 34) (.lit (V.str [110,111]))))]) (.l5 (.sub (.OK 34) (.lit (V.str [103,111,116]))) 1 [(.OK 14)]) (.lit V.none)
theorem Hb (ww:Wd p o g k t N) (hd:d < 6) (hn:nm∈N6):(b9 pg (n+18)).ev (mL d nm) NJ (H p o g k t)=.ok ((bif z3 (N d) nm then none else fo (g d) nm:Option V).getD .none) (H p o g k t):=by
 have ek:(b9 pg (n+16)).ev (mL d nm) (.sub (.OK 34) (.lit (V.str [110,111]))) (H p o g k t)=.ok (.loc (k d)) (H p o g k t):=M1 (β:=R V) (f:=λd=>(b9 pg (n+16)).ev (mL d nm) (.sub (.OK 34) (.lit (V.str [110,111]))) (H p o g k t)) (h:=λd=>.ok (.loc (k d)) (H p o g k t)) (by rfl') hd
 have eh:IV (.str nm) (.loc (k d)) (H p o g k t)=some (z3 (N d) nm):=Kg (Lh ww hd)
 have hc:Z0 (b9 pg (n+16)) (mL d nm) (.str nm) [(.R8,(.sub (.OK 34) (.lit (V.str [110,111]))))] (H p o g k t)=.ok (!z3 (N d) nm) (H p o g k t):=v8 ek (by
  show(b8 74 ((IV (.str nm) (.loc (k d)) (H p o g k t)).map not) (H p o g k t)).bind _=_
  rw[eh];rfl)
 have ht:(b9 pg (n+17)).tr (mL d nm) (.cmp (.OK 14) [(.R8,(.sub (.OK 34) (.lit (V.str [110,111]))))]) (H p o g k t)=.ok (!z3 (N d) nm) (H p o g k t):=iL (n:=n+16) (v:=.str nm) rfl hc
 cases e:z3 (N d) nm with
 |true=>rw[e]at ht;exact v8 ht rfl
 |false=>
  rw[e]at ht
  exact v8 (a:=true) (c7:=H p o g k t) ht (Hf (n+1) hd hn (ww.g d hd))
theorem De (ww:Wd p o g k t N) (hd:d < 6) (hn:nm∈N6) (ha:∀v,fo (o d) nm=some v->isQ v=true) (hb:∀v,fo (g d) nm=some v->isQ v=true):
 (b9 pg (n+20)).run 51 [.loc (rl d),.str nm] (H p o g k t)=.ok ((ai (fo (o d) nm) (fo (g d) nm) (z3 (N d) nm)).getD .none) (H p o g k t):=by
 have hl:dA ((bif z3 (N d) nm then none else fo (g d) nm:Option V).getD .none)=false:=by
  induction z3 (N d) nm with
  |true=>rfl
  |false=>
   show dA ((fo (g d) nm).getD .none)=false
   cases e:fo (g d) nm with
   |none=>rfl
   |some v=>exact aj (G:=λv=>dA v=false) (hb v e) (λJ=>rfl) λJ=>rfl
 have e2:a8 pg (b9 pg (n+18)) (mL d nm) (A8.body.drop 1) (H p o g k t)=.ok (.ret ((bif z3 (N d) nm then none else fo (g d) nm:Option V).getD .none),mL d nm) (H p o g k t):=s9 (B2 (e:=NJ) rfl (Hb n ww hd hn) hl)
 have Y1:∀{x:O},put o d x=o->(x=.emp∨∃f,x=.map (t9 f nm none))->(b9 pg (n+20)).run 51 [.loc (rl d),.str nm] (H p o g k t)=.ok ((bif z3 (N d) nm then none else fo (g d) nm:Option V).getD .none) (H p o g k t):=λ{x} ex hx=>by
  have e1:=Hc (p:=p) (o:=o) (g:=g) (k:=k) (t:=t) n hx hd hn
  rw[ex]at e1
  exact t8 (n:=n+19) (fd:=A8) (m:=mL d nm) rfl rfl ((z4 1 e1).trans e2)
 induction ho:o d with
 |map f=>
  cases e:f nm with
  |none=>exact(Y1 (x:=.map (t9 f nm none)) (by rw[←e,E6,←ho];exact o9) (.inr ⟨f,rfl⟩)).trans (by rw[show fo (.map f) nm=none from e];rfl)
  |some v=>
   have ex:put o d (.map (t9 f nm (some v)))=o:=by rw[←e,E6,←ho];exact o9
   have q:=He (p:=p) (o:=o) (g:=g) (k:=k) (t:=t) (f:=f) n (Ho (ha v (by rw[ho];exact e))) hd hn
   rw[ex]at q
   exact(t8 (n:=n+19) (fd:=A8) (m:=mL d nm) rfl rfl q).trans (by rw[show fo (.map f) nm=some v from e];rfl)
 |emp=>exact Y1 (x:=.emp) (by rw[←ho];exact o9) (.inl rfl)
 |_=>exact absurd (ho▸ww.o d hd) nofun
end
noncomputable def up (d:Nat):Nat:=[6,0,1,2,1,0].getD d 6
noncomputable def ht (d:Nat):Nat:=[1,2,3,4,3,2].getD d 0
noncomputable def rg (d:Nat):Int:=bif Nat.blt d 6 then ob d else 0
inductive Sr (e:Nat->Option V):Nat->Nat->Prop
 |top:Sr e 6 6
 |here {d:Nat} {v:V}:d < 6->e d=some v->Sr e d d
 |up {d s:Nat}:d < 6->e d=none->Sr e (up d) s->Sr e d s
theorem Mm {α:Type} {f h:Nat->α} {d:Nat} (e:(List.range 6).map f=(List.range 6).foldr (λa r=>h a::r) []) (hd:d < 6):f d=h d:=M1 e hd
theorem df {d:Nat} (hd:d < 6):ht d=ht (up d)+1:=M1 (f:=ht) (h:=λd=>ht (up d)+1) rfl hd
theorem eU {d:Nat} (hd:d < 6):up d < 7:=OO (M1 (f:=λd=>Nat.blt (up d) 7) (h:=λJ=>true) rfl hd)
theorem cj {d:Nat} (hd:d < 6):rg d=ob d:=by unfold rg;rw[show Nat.blt d 6=true from Pe hd];rfl
theorem yp (e:Nat->Option V) {d:Nat}:∀{j:Nat},ht d≤j->d < 7->∃s,Sr e d s:=λ{j}=>by
 induction j generalizing d with
 |zero=>
  intro h hd
  rcases Nat.lt_or_ge d 6 with h6|h6
  ·rw[df h6]at h;exact absurd h (Nat.not_succ_le_zero _)
  ·rw[show d=6 from Nat.le_antisymm (Nat.le_of_lt_succ hd) h6];exact⟨6,.top⟩
 |succ j ih=>
  intro h hd
  rcases Nat.lt_or_ge d 6 with h6|h6
  ·induction q:e d with
   |some v=>exact⟨d,.here h6 q⟩
   |none=>exact(ih (by rw[df h6]at h;exact Nat.le_of_succ_le_succ h) (eU h6)).elim λs hs=>⟨s,.up h6 q hs⟩
  ·rw[show d=6 from Nat.le_antisymm (Nat.le_of_lt_succ hd) h6];exact⟨6,.top⟩
theorem fi {e:Nat->Option V} {d s:Nat} (h:Sr e d s):s < 7∧(s < 6->∃v,e s=some v):=by
 induction h with
 |top=>exact⟨by decide,λh=>absurd h (by decide)⟩
 |here h q=>exact⟨Nat.lt_succ_of_lt h,λJ=>⟨_,q⟩⟩
 |up h _ _ ih=>exact ih
variable {s:Nat}
section
variable (n:Nat)
noncomputable abbrev eN (p:Nat->O) (nm:Txt) (d:Nat):Option V:=cf (fo (p d)) nm
noncomputable abbrev eV (o g:Nat->O) (N:Nat->List Txt) (nm:Txt) (d:Nat):Option V:=ai (fo (o d) nm) (fo (g d) nm) (z3 (N d) nm)
theorem CB {f a b:Txt->Option V} {ns:List Txt} (D:Dir f a b ns) (hn:nm∈V7):cQ nm (cf f nm) (ai (a nm) (b nm) (z3 ns nm)):=by
 have h1:=D.own nm hn
 have h2:=D.got nm hn
 unfold cf ai
 rw[D.Kf nm hn]
 generalize f nm=x1,a nm=y1 at h1
 induction h1 with
 |some i v A=>exact .some i v A
 |none=>induction z3 ns nm with
  |true=>exact .none
  |false=>exact h2
theorem yZ {f a b:Txt->Option V} {ns:List Txt} (D:Dir f a b ns) (hn:nm∉V7) (h36:nm.any (Nat.beq 36)=false):cQ nm (cf f nm) (ai (a nm) (b nm) (z3 ns nm)):=by
 have no:∀{α:Type} {z:Option α},(z≠none->False)->z=none:=λ{α z} h=>by
  induction z with
  |none=>rfl
  |some _=>exact(h nofun).elim
 have e1:f nm=none:=no λh=>(D.keys nm h).elim λm q=>q.2.elim (λe=>hn (e▸q.1)) λe=>e.elim (λe=>Bool.noConfusion (h36.symm.trans (e▸X8 rfl))) λe=>Bool.noConfusion (h36.symm.trans (e▸X8 rfl))
 have e2:f (nm++u4)=none:=no λh=>(D.keys _ h).elim λm q=>q.2.elim (λe=>da q.1 e.symm) λe=>e.elim (λe=>P4 e.symm) λe=>hn (List.append_cancel_right e▸q.1)
 have e3:a nm=none:=no λh=>hn (D.ka nm h)
 have e4:b nm=none:=no λh=>hn (D.kg nm h)
 unfold cf ai
 rw[e1,e2,e3,e4]
 induction c3 (f (nm++y3))<;>induction z3 ns nm<;>exact .none
theorem S8 (x:Wk c p o g k t N) (hd:d < 6) (hn:nm∈N6):cQ nm (eN p nm d) (eV o g N nm d):=
 (Px hn).elim (λh=>CB (x.d d hd) h) λh=>(OW h).elim (λe=>e▸yZ (x.d d hd) (by decide) rfl) λe=>OX e▸yZ (x.d d hd) (by decide) rfl
noncomputable def mS (d:Nat) (nm:Txt):Fr:=[(41,.loc 1),(21,.int (rg d)),(14,.str nm)]
noncomputable def Ca:X:=.R5 [(.cmp (.OK 21) [(.ne,(.lit (V.int 0)))]),(.cmp (.call (.OK 99) [(.OK 41),(.OK 21),(.OK 14)]) [(.is,(.lit V.none))])]
noncomputable def Cc:List S:=[.assign (.OK 21) (.attr (.call (.OK 55) [(.OK 41),(.OK 21)]) 29)]
theorem nE (x:Wk c p o g k t N) (hd:d < 6) (hn:nm∈N6):(b9 pg (n+34)).tr (mS d nm) Ca (H p o g k t)=.ok (!c3 (eV o g N nm d)) (H p o g k t):=by
 have h1:(b9 pg (n+33)).tr (mS d nm) (.cmp (.OK 21) [(.ne,(.lit (V.int 0)))]) (H p o g k t)=.ok true (H p o g k t):=M1 (β:=R Bool) (f:=λd=>(b9 pg (n+33)).tr (mS d nm) (.cmp (.OK 21) [(.ne,(.lit (V.int 0)))]) (H p o g k t)) (h:=λd=>.ok true (H p o g k t)) (by rfl') hd
 have ho:=qY (o:=o) (g:=g) (k:=k) (t:=t) (n+1) hd hn (x.w.p d hd)
 have h2:(b9 pg (n+33)).tr (mS d nm) (.cmp (.call (.OK 99) [(.OK 41),(.OK 21),(.OK 14)]) [(.is,(.lit V.none))]) (H p o g k t)=.ok (!c3 (eV o g N nm d)) (H p o g k t):=by
  refine iL (n:=n+32) (v:=(eN p nm d).getD .none) (j0 (n:=n+31) (k:=38) (vs:=[.loc 1,.int (ob d),.str nm]) rfl (by rw[←cj hd];rfl) ho) ?_
  have hp:=S8 x hd hn
  generalize eN p nm d=a,eV o g N nm d=b at hp
  induction hp<;>rfl
 have e0:(b9 pg (n+34)).tr (mS d nm) Ca (H p o g k t)=((b9 pg (n+33)).tr (mS d nm) (.cmp (.OK 21) [(.ne,(.lit (V.int 0)))]) (H p o g k t)).bind λt Y=>bif t == true then(((b9 pg (n+33)).tr (mS d nm) (.cmp (.call (.OK 99) [(.OK 41),(.OK 21),(.OK 14)]) [(.is,(.lit V.none))]) Y).bind λt Y=>bif t == true then .ok true Y else .ok t Y)else .ok t Y:=rfl
 rw[e0,h1]
 refine v8 (a:=true) (c7:=H p o g k t) rfl (v8 h2 ?_)
 induction c3 (eV o g N nm d)<;>rfl
theorem yn (hd:d < 6):a8 pg (b9 pg (n+33)) (mS d nm) Cc (H p o g k t)=.ok (.next,mS (up d) nm) (H p o g k t):=M1 (β:=R (Fl×Fr)) (f:=λd=>a8 pg (b9 pg (n+33)) (mS d nm) Cc (H p o g k t)) (h:=λd=>.ok (.next,mS (up d) nm) (H p o g k t)) (by rfl') hd
theorem V3 {r:Ev} {m m':Fr} {Y c7 u3:Hp} {a:X} {b:List S} {j:Nat} {z:R (Fl×Fr)} (h:r.tr m a Y=.ok true c7) (h2:r.Y9 m b c7=.ok (.next,m') u3) (h3:G3 r a b j m' u3=z):G3 r a b (j+1) m Y=z:=by
 show((r.tr m a Y).z6).bind _=_
 rw[h]
 show((r.Y9 m b c7).z6).bind _=_
 rw[h2]
 exact h3
theorem H3 {r:Ev} {m:Fr} {Y c7:Hp} {a:X} {b:List S} {j:Nat} (h:r.tr m a Y=.ok false c7):G3 r a b (j+1) m Y=.ok (.next,m) c7:=by
 show((r.tr m a Y).z6).bind _=_
 rw[h];rfl
theorem ym (x:Wk c p o g k t N) (hn:nm∈N6) (h:Sr (eV o g N nm) d s):∀{j:Nat},ht d≤j->G3 (b9 pg (n+34)) Ca Cc (j+1) (mS d nm) (H p o g k t)=.ok (.next,mS s nm) (H p o g k t):=by
 induction h with
 |top=>exact λJ=>H3 (by rfl')
 | @here d v hd q=>exact λJ=>H3 ((nE n x hd hn).trans (by rw[q];rfl))
 | @up d s hd q _ ih=>
  intro j hj
  rw[df hd]at hj
  induction j with
  |zero=>exact absurd hj (Nat.not_succ_le_zero _)
  |succ j=>exact V3 ((nE n x hd hn).trans (by rw[q];rfl)) (yn n hd) (ih (Nat.le_of_succ_le_succ hj))
theorem ve (x:Wk c p o g k t N) (hd:d < 6) (hn:nm∈N6) (h:Sr (eV o g N nm) d s):(b9 pg (n+36)).run 42 [.loc 1,.int (ob d),.str nm] (H p o g k t)=.ok (.int (rg s)) (H p o g k t):=by
 refine t8 (n:=n+35) (fd:=dg) (m:=mS d nm) (p:=(.ret (.int (rg s)),mS s nm)) rfl (by rw[mS,cj hd];rfl) ?_
 exact(c6 (P:=pg) (r:=b9 pg (n+34)) (s:=.y6 Ca Cc) (ym n x hn h (j:=19) (OV (OO (M1 (f:=λd=>Nat.ble (ht d) 19) (h:=λJ=>true) rfl hd)) (Pw _)))).trans (s9 (B2 rfl rfl rfl))
end
variable {j:Nat}
section
variable {z:R (Fl×Fr)} {w:V} {a:X} {b:List S}
theorem FP (he:G7 (b9 P n) m es Y=.ok vs c7) (hz:vs.length≤1000):(b9 P (n+1)).ev m (.tuple es) Y=.ok (.tup vs) c7:=by
 refine v8 he ?_
 show(b8 97 (N2 vs) c7).bind _=_
 rw[show N2 vs=some vs from by unfold N2 gd;rw[Pe hz];rfl]
 rfl
theorem BF {r:Ev} (h:r.tr m a Y=.ok true c7) (h2:r.Y9 m b c7=.ok (.ret w,m') u3):G3 r a b (j+1) m Y=.ok (.ret w,m') u3:=by
 show((r.tr m a Y).z6).bind _=_
 rw[h]
 show((r.Y9 m b c7).z6).bind _=_
 rw[h2];rfl
end
noncomputable def Cp:Txt:=[100,101,102,97,117,108,116]
noncomputable def um (nm:Txt):V:=match(b9 pg 60).ev [(41,.loc 1),(14,.str nm),(82,I6 nm)] (.call (.OK 97) [(.OK 14),(.attr (.OK 82) 65)]) []with
 |.ok v _=>v
 |_=>.none
noncomputable def mV (v:V):Bool:=isQ v ||(F8 v).isSome
noncomputable def pP (s:Nat):Txt:=bif Nat.blt s 6 then Bu s else Cp
variable {z:V}
section
variable (n:Nat)
theorem zC (n:Nat) (Y:Hp) (hn:nm∈N6):(b9 pg (n+50)).run 30 [.str nm] Y=.ok (I6 nm) Y:=e8 (β:=R V) (a:=nm) (f:=λnm=>(b9 pg (n+50)).run 30 [.str nm] Y) (h:=λnm=>.ok (I6 nm) Y) (by rfl') hn
theorem zD (hn:nm∈N6):freeze (I6 nm)=some (I6 nm):=e8 (β:=Option V) (a:=nm) (f:=λnm=>freeze (I6 nm)) (h:=λnm=>some (I6 nm)) (by rfl') hn
theorem HX (hn:nm∈N6):mV (um nm)=true:=e8 (β:=Bool) (a:=nm) (f:=λnm=>mV (um nm)) (h:=λnm=>true) (by rfl') hn
noncomputable def mP (d s:Nat) (nm:Txt):Fr:=[(41,.loc 1),(21,.int (ob d)),(14,.str nm),(82,I6 nm),(100,.int (rg s))]
theorem KP (n:Nat) {x:V} {Y:Hp} (hn:nm∈N6):a8 pg (b9 pg (n+65)) [(41,.loc 1),(21,x),(14,.str nm),(82,I6 nm),(100,.int 0)] (E0.body.drop 2) Y=.ok (.ret (.tup [um nm,.str Cp]),[(41,.loc 1),(21,x),(14,.str nm),(82,I6 nm),(100,.int 0)]) Y:=
 e8 (β:=R (Fl×Fr)) (a:=nm) (f:=λnm=>a8 pg (b9 pg (n+65)) [(41,.loc 1),(21,x),(14,.str nm),(82,I6 nm),(100,.int 0)] (E0.body.drop 2) Y) (h:=λnm=>.ok (.ret (.tup [um nm,.str Cp]),[(41,.loc 1),(21,x),(14,.str nm),(82,I6 nm),(100,.int 0)]) Y) (by rfl') hn
theorem yK (n:Nat) {x y:V} {Y:Hp} (hs:s < 6):a8 pg (b9 pg (n+65)) [(41,.loc 1),(21,x),(14,.str nm),(82,y),(100,.int (rg s))] ((E0.body.drop 2).take 1) Y=.ok (.next,[(41,.loc 1),(21,x),(14,.str nm),(82,y),(100,.int (rg s))]) Y:=
 M1 (β:=R (Fl×Fr)) (f:=λs=>a8 pg (b9 pg (n+65)) [(41,.loc 1),(21,x),(14,.str nm),(82,y),(100,.int (rg s))] ((E0.body.drop 2).take 1) Y) (h:=λs=>.ok (.next,[(41,.loc 1),(21,x),(14,.str nm),(82,y),(100,.int (rg s))]) Y) (by rfl') hs
noncomputable def pV (o g:Nat->O) (N:Nat->List Txt) (z:V) (nm:Txt) (s:Nat):V:=bif Nat.blt s 6 then(eV o g N nm s).getD .none else z
theorem bj (h:isQ v=true):freeze v=some v:=aj (G:=λv=>freeze v=some v) h (λJ=>rfl) λJ=>rfl
theorem kn (x:Wk c p o g k t N) (hd:d < 6) (hn:nm∈N6) (h:Sr (eV o g N nm) d s):(b9 pg (n+67)).run 43 [.loc 1,.int (ob d),.str nm] (H p o g k t)=.ok (.tup [pV o g N (um nm) nm s,.str (pP s)]) (H p o g k t):=by
 refine t8 (n:=n+66) (fd:=E0) (m:=[(41,.loc 1),(21,.int (ob d)),(14,.str nm)]) (p:=(.ret (.tup [pV o g N (um nm) nm s,.str (pP s)]),mP d s nm)) rfl rfl ?_
 refine(c6 (m':=[(41,.loc 1),(21,.int (ob d)),(14,.str nm),(82,I6 nm)]) (m3 (j0 (n:=n+64) (k:=30) (vs:=[.str nm]) rfl rfl (zC (n+14) _ hn)) (D4 (zD hn)))).trans ?_
 refine(c6 (m':=mP d s nm) (m3 (j0 (n:=n+64) (k:=42) (vs:=[.loc 1,.int (ob d),.str nm]) rfl rfl (ve (n+28) x hd hn h)) (D4 (v:=.int (rg s)) (w:=.int (rg s)) rfl))).trans ?_
 rcases Nat.lt_or_ge s 6 with hs|hs
 ·refine(z4 (b:=E0.body.drop 2) 1 (yK n hs)).trans (s9 (B2 rfl (FP (n:=n+64) (vs:=[pV o g N (um nm) nm s,.str (pP s)]) ?_ (by show 2≤1000;decide)) rfl))
  have e6:Nat.blt s 6=true:=Pe hs
  have ho:(b9 pg (n+62)).run 38 [.loc 1,.int (ob s),.str nm] (H p o g k t)=.ok ((eN p nm s).getD .none) (H p o g k t):=qY (n+32) hs hn (x.w.p s hs)
  have hp:=CA (p:=p) (o:=o) (g:=g) (k:=k) (t:=t) (n+28) hs
  obtain⟨v,hv⟩:=(fi h).2 hs
  have hq:=S8 x hs hn
  unfold pV pP
  rw[e6]
  show G7 _ _ _ _=.ok [(eV o g N nm s).getD .none,.str (Bu s)] _
  rw[hv]at hq⊢
  generalize eN p nm s=a at hq ho
  cases hq with
  |some i v A=>exact i5 (j0 (n:=n+63) (k:=32) rfl (i5 (I2 (n:=n+62) (v:=.str nm) (w:=.str nm) rfl rfl) rfl (i5 (j0 (n:=n+62) (k:=38) (vs:=[.loc 1,.int (ob s),.str nm]) rfl (by rw[←cj hs];rfl) ho) rfl rfl)) (A.val (n+3) _)) (bj A.q) (i5 (j0 (n:=n+63) (k:=24) (vs:=[.loc 1,.int (ob s)]) rfl (by rw[←cj hs];rfl) hp) rfl rfl)
 ·have e:s=6:=Nat.le_antisymm (Nat.le_of_lt_succ (fi h).1) hs
  subst e
  exact KP n hn
end
noncomputable def Ka (d:Nat):Int:=bif Nat.blt d 6 then Int.ofNat d else -1
theorem zH {d:Nat} (hd:d < 6):Ka d=Int.ofNat d:=by unfold Ka;rw[show Nat.blt d 6=true from Pe hd];rfl
noncomputable def ip (nm:Txt):V:=match(b9 pg 60).run 49 [.str nm] []with
 |.ok v _=>v
 |_=>.none
section
variable (n:Nat)
theorem MC (n:Nat) {Y:Hp} (hn:nm∈N6):(b9 pg (n+60)).run 49 [.str nm] Y=.ok (ip nm) Y:=e8 (β:=R V) (a:=nm) (f:=λnm=>(b9 pg (n+60)).run 49 [.str nm] Y) (h:=λnm=>.ok (ip nm) Y) (by rfl') hn
theorem Hh (hn:nm∈N6):mV (ip nm)=true:=e8 (β:=Bool) (a:=nm) (f:=λnm=>mV (ip nm)) (h:=λnm=>true) (by rfl') hn
theorem fJ {a b:Option V} (h:cQ nm a b) (e:b=some v):isQ v=true:=by
 induction h with
 |none=>cases e
 |some i v A=>cases e;exact A.q
theorem tE (x:Wk c p o g k t N) (hd:d < 6):(∀v,fo (o d) nm=some v->isQ v=true)∧∀v,fo (g d) nm=some v->isQ v=true:=
 ⟨λv e=>fJ ((x.d d hd).own nm ((x.d d hd).ka nm (by rw[e];exact nofun))) e,λv e=>fJ ((x.d d hd).got nm ((x.d d hd).kg nm (by rw[e];exact nofun))) e⟩
theorem EP (x:Wk c p o g k t N) (hd:d < 6) (hn:nm∈N6):(b9 pg (n+20)).run 51 [.loc (rl d),.str nm] (H p o g k t)=.ok ((eV o g N nm d).getD .none) (H p o g k t):=De n x.w hd hn (tE x hd).1 (tE x hd).2
inductive Cy:Fr->Prop
 |nil:Cy []
 |one:Cy [(94,.none)]
noncomputable def mC (d:Nat) (nm:Txt) (y:Fr):Fr:=[(15,.loc 8),(21,.int (Ka d)),(14,.str nm)]++y
noncomputable def wO:X:=.cmp (.OK 21) [(.ge,(.lit (V.int 0)))]
noncomputable def iK:List S:=match F4.body with
 |.y6 _ b::_=>b
 |_=>[]
theorem ux (x:Wk c p o g k t N) (hd:d < 6) (hn:nm∈N6) {y:Fr} (hy:Cy y) (hz:freeze ((eV o g N nm d).getD .none)=some ((eV o g N nm d).getD .none)):a8 pg (b9 pg (n+24)) (mC d nm y) (iK.take 1) (H p o g k t)=.ok (.next,mC d nm [(94,(eV o g N nm d).getD .none)]) (H p o g k t):=by
 have h51:=EP (n+3) x hd hn
 have he:∀y,Cy y->G7 (b9 pg (n+23)) (mC d nm y) [(.sub (.OK 15) (.OK 21)),(.OK 14)] (H p o g k t)=.ok [.loc (rl d),.str nm] (H p o g k t):=λy hy=>by
  induction hy with
  |nil=>exact M1 (β:=R (List V)) (f:=λd=>G7 (b9 pg (n+23)) (mC d nm []) [(.sub (.OK 15) (.OK 21)),(.OK 14)] (H p o g k t)) (h:=λd=>.ok [.loc (rl d),.str nm] (H p o g k t)) (by rfl') hd
  |one=>exact M1 (β:=R (List V)) (f:=λd=>G7 (b9 pg (n+23)) (mC d nm [(94,.none)]) [(.sub (.OK 15) (.OK 21)),(.OK 14)] (H p o g k t)) (h:=λd=>.ok [.loc (rl d),.str nm] (H p o g k t)) (by rfl') hd
 have h1:(b9 pg (n+24)).ev (mC d nm y) (.call (.OK 116) [(.sub (.OK 15) (.OK 21)),(.OK 14)]) (H p o g k t)=.ok ((eV o g N nm d).getD .none) (H p o g k t):=j0 (n:=n+23) (k:=51) (by induction hy<;>rfl) (he y hy) h51
 have h2:store pg (b9 pg (n+24)) (.OK 94) ((eV o g N nm d).getD .none) (mC d nm y) (H p o g k t)=.ok (mC d nm [(94,(eV o g N nm d).getD .none)]) (H p o g k t):=(D4 hz).trans (by induction hy<;>rfl)
 exact(c6 (m3 h1 h2)).trans g5
theorem cnt_none (n:Nat) (hd:d < 6):a8 pg (b9 pg (n+24)) (mC d nm [(94,.none)]) (iK.drop 1) (H p o g k t)=.ok (.next,mC (up d) nm [(94,.none)]) (H p o g k t):=
 M1 (β:=R (Fl×Fr)) (f:=λd=>a8 pg (b9 pg (n+24)) (mC d nm [(94,.none)]) (iK.drop 1) (H p o g k t)) (h:=λd=>.ok (.next,mC (up d) nm [(94,.none)]) (H p o g k t)) (by rfl') hd
theorem AG (n:Nat) (hd:d < 6) (hq:isQ v=true):a8 pg (b9 pg (n+24)) (mC d nm [(94,v)]) (iK.drop 1) (H p o g k t)=.ok (.ret (.tup [v,.str (Bu d)]),mC d nm [(94,v)]) (H p o g k t):=
 aj (G:=λv=>a8 pg (b9 pg (n+24)) (mC d nm [(94,v)]) (iK.drop 1) (H p o g k t)=.ok (.ret (.tup [v,.str (Bu d)]),mC d nm [(94,v)]) (H p o g k t)) hq
  (λi=>M1 (β:=R (Fl×Fr)) (f:=λd=>a8 pg (b9 pg (n+24)) (mC d nm [(94,.int i)]) (iK.drop 1) (H p o g k t)) (h:=λd=>.ok (.ret (.tup [.int i,.str (Bu d)]),mC d nm [(94,.int i)]) (H p o g k t)) (by rfl') hd)
  λi=>M1 (β:=R (Fl×Fr)) (f:=λd=>a8 pg (b9 pg (n+24)) (mC d nm [(94,.str i)]) (iK.drop 1) (H p o g k t)) (h:=λd=>.ok (.ret (.tup [.str i,.str (Bu d)]),mC d nm [(94,.str i)]) (H p o g k t)) (by rfl') hd
theorem pA (n:Nat) (hd:d < 6) {y:Fr} (hy:Cy y):(b9 pg (n+25)).tr (mC d nm y) wO (H p o g k t)=.ok true (H p o g k t):=by
 induction hy with
 |nil=>exact M1 (β:=R Bool) (f:=λd=>(b9 pg (n+25)).tr (mC d nm []) wO (H p o g k t)) (h:=λd=>.ok true (H p o g k t)) (by rfl') hd
 |one=>exact M1 (β:=R Bool) (f:=λd=>(b9 pg (n+25)).tr (mC d nm [(94,.none)]) wO (H p o g k t)) (h:=λd=>.ok true (H p o g k t)) (by rfl') hd
noncomputable def Ih (o g:Nat->O) (N:Nat->List Txt) (nm:Txt) (s:Nat) (m:Fr) (Y:Hp):R (Fl×Fr):=.ok (bif Nat.blt s 6 then .ret (.tup [(eV o g N nm s).getD .none,.str (Bu s)])else .next,m) Y
theorem AH (x:Wk c p o g k t N) (hn:nm∈N6) (h:Sr (eV o g N nm) d s):∀{j:Nat} {y:Fr},ht d≤j->Cy y->∃m,(s=6->∃y',Cy y'∧m=mC 6 nm y')∧G3 (b9 pg (n+25)) wO iK (j+1) (mC d nm y) (H p o g k t)=Ih o g N nm s m (H p o g k t):=by
 induction h with
 |top=>exact λ{j y} J hy=>⟨mC 6 nm y,λJ=>⟨y,hy,rfl⟩,H3 (by induction hy<;>rfl')⟩
 | @here d v hd q=>
  intro j y _ hy
  have hq:isQ v=true:=fJ (S8 x hd hn) q
  have h1:=ux n x hd hn hy (by rw[q];exact bj hq)
  rw[q]at h1
  refine⟨mC d nm [(94,v)],λe=>absurd hd (by rw[e];decide),?_⟩
  unfold Ih
  rw[show Nat.blt d 6=true from Pe hd,q]
  exact BF (pA n hd hy) ((z4 1 h1).trans (AG n hd hq))
 | @up d s hd q _ ih=>
  intro j y hj hy
  rw[df hd]at hj
  have h1:=ux n x hd hn hy (by rw[q];rfl)
  rw[q]at h1
  induction j with
  |zero=>exact absurd hj (Nat.not_succ_le_zero _)
  |succ j=>exact(ih (y:=[(94,.none)]) (Nat.le_of_succ_le_succ hj) .one).elim λm hm=>⟨m,hm.1,V3 (pA n hd hy) ((z4 1 h1).trans (cnt_none n hd)) hm.2⟩
theorem zV (hd:d < 6):ht d≤19:=OO (M1 (f:=λd=>Nat.ble (ht d) 19) (h:=λJ=>true) rfl hd)
theorem ak {G:V->Prop} (h:mV v=true) (h0:G .none) (h1:∀i,G (.int i)) (h2:∀s,G (.str s)):G v:=by
 cases v with
 |none=>exact h0
 |int i=>exact h1 i
 |str s=>exact h2 s
 |_=>exact Bool.noConfusion h
theorem lh (h:mV v=true):freeze v=some v:=ak (G:=λv=>freeze v=some v) h rfl (λJ=>rfl) λJ=>rfl
theorem cE (x:Wk c p o g k t N) (hd:d < 6) (hn:nm∈N6) (h:Sr (eV o g N nm) d s):(b9 pg (n+65)).run 52 [.loc 8,.int (Int.ofNat d),.str nm] (H p o g k t)=.ok (.tup [pV o g N (ip nm) nm s,.str (pP s)]) (H p o g k t):=by
 obtain⟨m,hm,e⟩:=AH (n+38) x hn h (zV hd) .nil
 have eb:U6 F4 [.loc 8,.int (Int.ofNat d),.str nm]=some (mC d nm []):=by rw[←zH hd];rfl
 unfold Ih at e
 rcases Nat.lt_or_ge s 6 with hs|hs
 ·have e6:Nat.blt s 6=true:=Pe hs
  unfold pV pP
  rw[e6]at e⊢
  exact t8 (n:=n+64) (fd:=F4) (m:=mC d nm []) rfl eb (s9 (P:=pg) (r:=b9 pg (n+63)) (s:=.y6 wO iK) e)
 ·have e6:s=6:=Nat.le_antisymm (Nat.le_of_lt_succ (fi h).1) hs
  subst e6
  obtain⟨y,hy,rfl⟩:=hm rfl
  refine t8 (n:=n+64) (fd:=F4) (m:=mC d nm []) rfl eb ((c6 (P:=pg) (r:=b9 pg (n+63)) (s:=.y6 wO iK) e).trans (s9 (B2 rfl (FP (n:=n+62) (vs:=[ip nm,.str Cp]) (i5 (j0 (n:=n+61) (k:=49) (vs:=[.str nm]) ?_ ?_ (MC (n+1) hn)) (lh (Hh hn)) rfl) (by show 2≤1000;decide)) rfl)))
  ·induction hy<;>rfl
  ·induction hy<;>rfl
end
noncomputable def kN (d:Nat):List Nat:=[[1,5],[2,4],[3]].getD d []
noncomputable def dR (l:List Nat):List V:=l.map λd=>.int (ob d)
noncomputable def pre (e:Nat->Bool):Nat->List Nat->List Nat->List Nat
 |0,acc,_=>acc
 |_+1,acc,[]=>acc
 |f+1,acc,d::w=>bif e d then pre e f acc w else pre e f (acc++[d]) (kN d++w)
noncomputable def ez:Nat->List Nat->List Nat->List (List Nat×List Nat)
 |0,acc,w=>[(acc,w)]
 |_+1,acc,[]=>[(acc,[])]
 |f+1,acc,d::w=>(acc,d::w)::(ez f acc w++ez f (acc++[d]) (kN d++w))
noncomputable def Ja:List (List Nat×List Nat):=(List.range 6).flatMap λpl=>ez 19 [] (kN pl)
noncomputable def uW (w:List Nat):Nat:=w.foldr (λd n=>[6,4,2,1,1,1].getD d 1+n) 0
theorem dK {a b:List Nat}:uW (a++b)=uW a+uW b:=by
 induction a with
 |nil=>exact(Nat.zero_add _).symm
 |cons x a ih=>exact(OY (_+ ·) ih).trans (Nat.add_assoc _ _ _).symm
noncomputable def tB:List S:=match O8.body with
 |_::_::.y6 _ b::_=>b
 |_=>[]
noncomputable def tT:X:=.cmp (.OK 107) [(.ne,(.list []))]
noncomputable def tC:X:=.cmp (.call (.OK 99) [(.OK 41),(.OK 110),(.OK 14)]) [(.is,(.lit V.none))]
noncomputable def bT (pl:Nat) (nm:Txt) (acc w:List Nat) (y:Fr):Fr:=[(41,.loc 1),(21,.int (ob pl)),(14,.str nm),(107,.g6 (dR w)),(94,.g6 (dR acc))]++y
inductive Ty:Fr->Prop
 |nil:Ty []
 |one (i:Int):Ty [(110,.int i)]
noncomputable def vR {α:Type} (l:List α):Bool:=List.rec false (λJ J J=>true) l
variable {y:Fr} {pl:Nat}
section
variable {acc w:List Nat} (n:Nat)
theorem ke (hs:(acc,w)∈Ja) (hy:Ty y):(b9 pg (n+60)).tr (bT pl nm acc w y) tT Y=.ok (vR w) Y:=by
 induction hy with
 |nil=>exact e8 (β:=R Bool) (a:=(acc,w)) (f:=λq=>(b9 pg (n+60)).tr (bT pl nm q.1 q.2 []) tT Y) (h:=λq=>.ok (vR q.2) Y) (by rfl') hs
 |one i=>exact e8 (β:=R Bool) (a:=(acc,w)) (f:=λq=>(b9 pg (n+60)).tr (bT pl nm q.1 q.2 [(110,.int i)]) tT Y) (h:=λq=>.ok (vR q.2) Y) (by rfl') hs
theorem Jj (hs:(acc,d::w)∈Ja) (hy:Ty y):a8 pg (b9 pg (n+59)) (bT pl nm acc (d::w) y) (tB.take 1) Y=.ok (.next,bT pl nm acc w [(110,.int (ob d))]) Y:=by
 have go:∀y,Ty y->(bif vR (acc,d::w).2 then a8 pg (b9 pg (n+59)) (bT pl nm acc (d::w) y) (tB.take 1) Y else .no 0)=(bif vR (acc,d::w).2 then .ok (.next,bT pl nm acc (d::w).tail [(110,.int (ob ((d::w).headD 0)))]) Y else .no 0:R (Fl×Fr)):=λy hy=>by
  induction hy with
  |nil=>exact e8 (β:=R (Fl×Fr)) (a:=(acc,d::w)) (f:=λq=>bif vR q.2 then a8 pg (b9 pg (n+59)) (bT pl nm q.1 q.2 []) (tB.take 1) Y else .no 0) (h:=λq=>bif vR q.2 then .ok (.next,bT pl nm q.1 q.2.tail [(110,.int (ob (q.2.headD 0)))]) Y else .no 0) (by rfl') hs
  |one i=>exact e8 (β:=R (Fl×Fr)) (a:=(acc,d::w)) (f:=λq=>bif vR q.2 then a8 pg (b9 pg (n+59)) (bT pl nm q.1 q.2 [(110,.int i)]) (tB.take 1) Y else .no 0) (h:=λq=>bif vR q.2 then .ok (.next,bT pl nm q.1 q.2.tail [(110,.int (ob (q.2.headD 0)))]) Y else .no 0) (by rfl') hs
 exact go y hy
theorem FR (hs:(acc,d::w)∈Ja):a8 pg (b9 pg (n+58)) (bT pl nm acc w [(110,.int (ob d))]) (sW (tB.getD 1 .pass)) (H p o g k t)=.ok (.next,bT pl nm (acc++[d]) (kN d++w) [(110,.int (ob d))]) (H p o g k t):=
 show(bif vR (acc,d::w).2 then a8 pg (b9 pg (n+58)) (bT pl nm acc w [(110,.int (ob d))]) (sW (tB.getD 1 .pass)) (H p o g k t)else .no 0)=(bif vR (acc,d::w).2 then .ok (.next,bT pl nm (acc++[d]) (kN d++w) [(110,.int (ob d))]) (H p o g k t)else .no 0:R (Fl×Fr))from
  e8 (β:=R (Fl×Fr)) (a:=(acc,d::w)) (f:=λq=>bif vR q.2 then a8 pg (b9 pg (n+58)) (bT pl nm q.1 q.2.tail [(110,.int (ob (q.2.headD 0)))]) (sW (tB.getD 1 .pass)) (H p o g k t)else .no 0)
   (h:=λq=>bif vR q.2 then .ok (.next,bT pl nm (q.1++[q.2.headD 0]) (kN (q.2.headD 0)++q.2.tail) [(110,.int (ob (q.2.headD 0)))]) (H p o g k t)else .no 0) (by rfl') hs
theorem FT (hs:(acc,d::w)∈Ja):d < 6:=OO (show Nat.blt ((acc,d::w).2.headD 0) 6=true from e8 (β:=Bool) (a:=(acc,d::w)) (f:=λq=>Nat.blt (q.2.headD 0) 6) (h:=λq=>true) (by rfl') hs)
theorem Jk (x:Wk c p o g k t N) (hd:d < 6) (hn:nm∈N6):(b9 pg (n+59)).tr (bT pl nm acc w [(110,.int (ob d))]) tC (H p o g k t)=.ok (!c3 (eV o g N nm d)) (H p o g k t):=by
 have ho:(b9 pg (n+57)).run 38 [.loc 1,.int (ob d),.str nm] (H p o g k t)=.ok ((eN p nm d).getD .none) (H p o g k t):=qY (n+27) hd hn (x.w.p d hd)
 refine iL (n:=n+58) (v:=(eN p nm d).getD .none) (j0 (n:=n+57) (k:=38) (vs:=[.loc 1,.int (ob d),.str nm]) rfl rfl ho) ?_
 have hp:=S8 x hd hn
 generalize eN p nm d=a,eV o g N nm d=b at hp
 induction hp<;>rfl
theorem FQ (x:Wk c p o g k t N) (hn:nm∈N6) (hs:(acc,d::w)∈Ja) (hy:Ty y):a8 pg (b9 pg (n+59)) (bT pl nm acc (d::w) y) tB (H p o g k t)=.ok (.next,bif c3 (eV o g N nm d)then bT pl nm acc w [(110,.int (ob d))]else bT pl nm (acc++[d]) (kN d++w) [(110,.int (ob d))]) (H p o g k t):=by
 refine(z4 1 (Jj n hs hy)).trans ?_
 have ht:=Jk (pl:=pl) (acc:=acc) (w:=w) n x (FT hs) hn
 cases e:c3 (eV o g N nm d)with
 |true=>
  rw[e]at ht
  exact(c6 (N5 (n:=n+58) ht rfl)).trans g5
 |false=>
  rw[e]at ht
  exact(c6 (bh (n:=n+58) ht (FR n hs))).trans g5
theorem yf (hd:d < 6):uW [d]=uW (kN d)+1:=M1 (f:=λd=>uW [d]) (h:=λd=>uW (kN d)+1) rfl hd
theorem FU (x:Wk c p o g k t N) (hn:nm∈N6):∀{f:Nat} {acc w:List Nat} {y:Fr},(∀st∈ez f acc w,st∈Ja)->uW w≤f->Ty y->∃y',Ty y'∧G3 (b9 pg (n+60)) tT tB (f+1) (bT pl nm acc w y) (H p o g k t)=.ok (.next,bT pl nm (pre (λd=>c3 (eV o g N nm d)) f acc w) [] y') (H p o g k t):=λ{f}=>by
 induction f with
 |zero=>
  intro acc w y hst hz hy
  induction w with
  |nil=>exact⟨y,hy,H3 (ke n (hst _ (.head _)) hy)⟩
  |cons d w=>
   have hd:d < 6:=FT (hst _ (.head _))
   rw[show uW (d::w)=uW ([d]++w)from rfl,dK,yf hd,Nat.succ_add]at hz
   exact absurd hz (Nat.not_succ_le_zero _)
 |succ f ih=>
  intro acc w y hst hz hy
  induction w with
  |nil=>exact⟨y,hy,H3 (ke n (hst _ (.head _)) hy)⟩
  |cons d w=>
   have h0:=hst _ (.head _)
   have hd:d < 6:=FT h0
   rw[show uW (d::w)=uW ([d]++w)from rfl,dK,yf hd,Nat.succ_add,←dK]at hz
   have hz':=Nat.le_of_succ_le_succ hz
   have st:=FQ (pl:=pl) n x hn h0 hy
   show∃y',Ty y'∧_=R.ok (Fl.next,bT pl nm (bif c3 (eV o g N nm d)then pre (λd=>c3 (eV o g N nm d)) f acc w else pre (λd=>c3 (eV o g N nm d)) f (acc++[d]) (kN d++w)) [] y') _
   cases e:c3 (eV o g N nm d)with
   |true=>
    rw[e]at st
    exact(ih (λq hq=>hst q (.tail _ (OQ _ hq))) (OV (by rw[dK];exact Nat.le_add_left _ _) hz') (.one (ob d))).elim λy' h=>⟨y',h.1,V3 (ke n h0 hy) st h.2⟩
   |false=>
    rw[e]at st
    exact(ih (λq hq=>hst q (.tail _ (OS _ hq))) hz' (.one (ob d))).elim λy' h=>⟨y',h.1,V3 (ke n h0 hy) st h.2⟩
theorem FW (hd:d < 6):a8 pg (b9 pg (n+60)) [(41,.loc 1),(21,.int (ob d)),(14,.str nm)] ((O8.body.drop 1).take 1) (H p o g k t)=.ok (.next,bT d nm [] (kN d) []) (H p o g k t):=
 M1 (β:=R (Fl×Fr)) (f:=λd=>a8 pg (b9 pg (n+60)) [(41,.loc 1),(21,.int (ob d)),(14,.str nm)] ((O8.body.drop 1).take 1) (H p o g k t)) (h:=λd=>.ok (.next,bT d nm [] (kN d) []) (H p o g k t)) (by rfl') hd
theorem bS (x:Wk c p o g k t N) (hd:d < 6) (hn:nm∈N6):(b9 pg (n+62)).run 46 [.loc 1,.int (ob d),.str nm] (H p o g k t)=.ok (.g6 (dR (pre (λd=>c3 (eV o g N nm d)) 19 [] (kN d)))) (H p o g k t):=by
 obtain⟨y,hy,e⟩:=FU (pl:=d) n x hn (f:=19) (acc:=[]) (w:=kN d) (λq hq=>List.mem_flatMap.mpr ⟨d,Py hd,hq⟩) (OO (M1 (f:=λd=>Nat.ble (uW (kN d)) 19) (h:=λJ=>true) rfl hd)) .nil
 refine t8 (n:=n+61) (fd:=O8) (m:=[(41,.loc 1),(21,.int (ob d)),(14,.str nm)]) (p:=(.ret (.g6 (dR (pre (λd=>c3 (eV o g N nm d)) 19 [] (kN d)))),bT d nm (pre (λd=>c3 (eV o g N nm d)) 19 [] (kN d)) [] y)) rfl rfl ?_
 refine(c6 (C3 (j0 (n:=n+59) (k:=30) (vs:=[.str nm]) rfl rfl (zC (n+9) _ hn)))).trans ?_
 refine(z4 (b:=O8.body.drop 1) 1 (FW n hd)).trans ?_
 refine(c6 (P:=pg) (r:=b9 pg (n+60)) (s:=.y6 tT tB) e).trans (s9 ?_)
 induction hy<;>rfl
end
noncomputable def cl (e:Nat->Bool) (pl:Nat):Nat->Nat->Bool
 |0,_=>false
 |f+1,u=>bif Nat.beq u pl then true else bif !Nat.blt u 6 || e u then false else cl e pl f (up u)
noncomputable def lB:List S:=match J1.body with
 |_::.F2 _ _ _ b::_=>b
 |_=>[]
noncomputable def MP:X:=.R5 [(.cmp (.OK 119) [(.ne,(.OK 21))]),(.cmp (.OK 119) [(.ge,(.lit (V.int 0)))]),(.cmp (.call (.OK 116) [(.sub (.OK 15) (.OK 119)),(.OK 14)]) [(.is,(.lit V.none))])]
noncomputable def LN:List S:=[.assign (.OK 119) (.sub (.sub (.OK 15) (.OK 119)) (.lit (V.str [112,97,114,101,110,116])))]
noncomputable def mT (pl:Nat) (nm:Txt) (acc:List V) (y:Fr):Fr:=[(15,.loc 8),(21,.int (Int.ofNat pl)),(14,.str nm),(94,.g6 acc)]++y
noncomputable abbrev mU (pl:Nat) (nm:Txt) (acc:List V) (one:Int) (u:Nat):Fr:=mT pl nm acc [(118,.int one),(119,.int (Ka u))]
noncomputable abbrev D7:List Nat:=List.range 7
variable {x:Nat}
section
variable {w:V}
theorem ID {a:X} {as:List X} {b1 b:Bool} (h1:r.tr m a Y=.ok b1 Y) (h:b1=true->bQ r m true as Y=.ok b Y):bQ r m true (a::as) Y=.ok (b1&&b) Y:=by
 show((r.tr m a Y).bind λt Y=>bif t == true then bQ r m true as Y else R.ok t Y)=_
 rw[h1]
 induction b1 with
 |false=>rfl
 |true=>exact h rfl
theorem kU (h:d6 m x=some (.g6 xs)) (he:r.ev m e Y=.ok v c7) (hf:freeze v=some w) (hz:xs.length≤1000):g8 P r m (.F1 x e) Y=.ok (.next,putN m x (.g6 (xs++[w]))) c7:=by
 show(b8 145 ((d6 m x).bind xm) Y).bind _=_
 rw[h]
 refine v8 (a:=xs) (c7:=Y) rfl (v8 he ?_)
 show(b8 145 (freeze v) c7).bind _=_
 rw[hf]
 show(bif Nat.ble xs.length 1000 then R.ok (Fl.next,putN m x (.g6 (xs++[w]))) c7 else .no 145)=_
 rw[Pe hz];rfl
end
variable {u:Nat} {acc:List V}
section
variable {one:Int} (n:Nat)
theorem zU (x:Wk c p o g k t N) (hn:nm∈N6) (hu:u < 7) (hp:pl < 6):(b9 pg (n+34)).tr (mU pl nm acc one u) MP (H p o g k t)=.ok (!Nat.beq u pl&&(Nat.blt u 6&&!c3 (eV o g N nm u))) (H p o g k t):=by
 have h1:(b9 pg (n+33)).tr (mU pl nm acc one u) (.cmp (.OK 119) [(.ne,(.OK 21))]) (H p o g k t)=.ok (!Nat.beq u pl) (H p o g k t):=Y3 (γ:=R Bool) (a:=u) (b:=pl) (l1:=D7) (f:=λu pl=>(b9 pg (n+33)).tr (mU pl nm acc one u) (.cmp (.OK 119) [(.ne,(.OK 21))]) (H p o g k t)) (h:=λu pl=>.ok (!Nat.beq u pl) (H p o g k t)) (by rfl') (Py hu) (Py hp)
 have h2:(b9 pg (n+33)).tr (mU pl nm acc one u) (.cmp (.OK 119) [(.ge,(.lit (V.int 0)))]) (H p o g k t)=.ok (Nat.blt u 6) (H p o g k t):=e8 (β:=R Bool) (a:=u) (l:=D7) (f:=λu=>(b9 pg (n+33)).tr (mU pl nm acc one u) (.cmp (.OK 119) [(.ge,(.lit (V.int 0)))]) (H p o g k t)) (h:=λu=>.ok (Nat.blt u 6) (H p o g k t)) (by rfl') (Py hu)
 refine(show bQ (b9 pg (n+33)) (mU pl nm acc one u) true _ _=_ from ID h1 λJ=>ID h2 λe6=>?_)
 have h6:u < 6:=OO e6
 have he:G7 (b9 pg (n+31)) (mU pl nm acc one u) [(.sub (.OK 15) (.OK 119)),(.OK 14)] (H p o g k t)=.ok [.loc (rl u),.str nm] (H p o g k t):=M1 (β:=R (List V)) (f:=λu=>G7 (b9 pg (n+31)) (mU pl nm acc one u) [(.sub (.OK 15) (.OK 119)),(.OK 14)] (H p o g k t)) (h:=λu=>.ok [.loc (rl u),.str nm] (H p o g k t)) (by rfl') h6
 have h3:(b9 pg (n+33)).tr (mU pl nm acc one u) (.cmp (.call (.OK 116) [(.sub (.OK 15) (.OK 119)),(.OK 14)]) [(.is,(.lit V.none))]) (H p o g k t)=.ok (!c3 (eV o g N nm u)) (H p o g k t):=by
  refine iL (n:=n+32) (v:=(eV o g N nm u).getD .none) (j0 (n:=n+31) (k:=51) rfl he (EP (n+11) x h6 hn)) ?_
  induction q:eV o g N nm u with
  |none=>rfl
  |some v=>exact aj (G:=λv=>Z0 (b9 pg (n+32)) (mU pl nm acc one u) ((some v).getD .none) [(.is,(.lit V.none))] (H p o g k t)=.ok (!c3 (some v)) (H p o g k t)) (fJ (S8 x h6 hn) q) (λJ=>rfl) λJ=>rfl
 exact(ID (as:=[]) (b:=true) h3 λJ=>rfl).trans (by rw[Bool.and_true])
theorem Hx (hu:u < 6):a8 pg (b9 pg (n+33)) (mU pl nm acc one u) LN (H p o g k t)=.ok (.next,mU pl nm acc one (up u)) (H p o g k t):=M1 (β:=R (Fl×Fr)) (f:=λu=>a8 pg (b9 pg (n+33)) (mU pl nm acc one u) LN (H p o g k t)) (h:=λu=>.ok (.next,mU pl nm acc one (up u)) (H p o g k t)) (by rfl') hu
theorem Hw (x:Wk c p o g k t N) (hn:nm∈N6) (hp:pl < 6):∀{f u:Nat},ht u≤f->u < 7->∃u',u' < 7∧Nat.beq u' pl=cl (λd=>c3 (eV o g N nm d)) pl (f+1) u∧G3 (b9 pg (n+34)) MP LN (f+1) (mU pl nm acc one u) (H p o g k t)=.ok (.next,mU pl nm acc one u') (H p o g k t):=λ{f}=>by
 induction f with
 |zero=>
  intro u hf hu
  have it:=zU (acc:=acc) (one:=one) n x hn hu hp
  rcases Nat.lt_or_ge u 6 with h6|h6
  ·rw[df h6]at hf;exact absurd hf (Nat.not_succ_le_zero _)
  ·have e6:u=6:=Nat.le_antisymm (Nat.le_of_lt_succ hu) h6
   subst e6
   refine⟨6,hu,?_,H3 (it.trans (by rw[show Nat.blt 6 6=false from rfl,Bool.false_and,Bool.and_false]))⟩
   unfold cl
   induction Nat.beq 6 pl<;>rfl
 |succ f ih=>
  intro u hf hu
  have it:=zU (acc:=acc) (one:=one) n x hn hu hp
  show∃u',u' < 7∧Nat.beq u' pl=(bif Nat.beq u pl then true else bif !Nat.blt u 6 || c3 (eV o g N nm u)then false else cl (λd=>c3 (eV o g N nm d)) pl (f+1) (up u))∧_
  induction q1:Nat.beq u pl with
  |true=>exact⟨u,hu,q1,H3 (it.trans (by rw[q1];rfl))⟩
  |false=>
   induction q2:Nat.blt u 6 with
   |false=>exact⟨u,hu,q1,H3 (it.trans (by rw[q1,q2];rfl))⟩
   |true=>
    have h6:u < 6:=OO q2
    induction q3:c3 (eV o g N nm u)with
    |true=>exact⟨u,hu,q1,H3 (it.trans (by rw[q1,q2,q3];rfl))⟩
    |false=>
     rw[df h6]at hf
     exact(ih (Nat.le_of_succ_le_succ hf) (eU h6)).elim λu' h=>⟨u',h.1,h.2.1,V3 (it.trans (by rw[q1,q2,q3];rfl)) (Hx n h6) h.2.2⟩
end
variable {it:List X} {items:List V}
section
variable {b:List S} {z:R (Fl×Fr)}
theorem O7 (h:r.Y9 (putN m x v) b Y=.ok (.next,m') c7) (h2:Q4 r [x] b vs m' c7=z):Q4 r [x] b (v::vs) m Y=z:=by
 show(b8 130 (some (putN m x v)) Y).bind _=_
 refine v8 (a:=putN m x v) (c7:=Y) rfl ?_
 show((r.Y9 (putN m x v) b Y).z6).bind _=_
 rw[h]
 exact h2
theorem jJ (he:m7 r m it Y=.ok vs Y) (hs:aI .range 1 vs=some items) (h:Q4 r [x] b items m Y=z):g8 P r m (.F2 [x] .range it b) Y=z:=by
 show((m7 r m it Y).z6).bind _=_
 rw[he]
 show(b8 142 (aI .range 1 vs) Y).bind _=_
 rw[hs]
 exact h
end
noncomputable def tk (e:Nat->Bool) (pl:Nat):List Nat:=((List.range (6 - (pl+1))).map (pl+1+ ·)).filter (cl e pl 20)
inductive Ly:Fr->Prop
 |nil:Ly []
 |two (a b:Int):Ly [(118,.int a),(119,.int b)]
section
variable {acc:List Nat} (n:Nat)
theorem JX (x:Wk c p o g k t N) (hn:nm∈N6) (hp:pl < 6) (hj:j < 6) (hy:Ly y) (hz:acc.length≤1000):∃y',Ly y'∧(b9 pg (n+35)).Y9 (putN (mT pl nm (dR acc) y) 118 (.int (Int.ofNat j))) lB (H p o g k t)=.ok (.next,mT pl nm (dR (acc++bif cl (λd=>c3 (eV o g N nm d)) pl 20 j then[j]else[])) y') (H p o g k t):=by
 have s1:a8 pg (b9 pg (n+34)) (putN (mT pl nm (dR acc) y) 118 (.int (Int.ofNat j))) (lB.take 1) (H p o g k t)=.ok (.next,mU pl nm (dR acc) (Int.ofNat j) j) (H p o g k t):=by
  unfold mU
  rw[zH hj]
  induction hy<;>rfl
 obtain⟨u,hu,hb,s2⟩:=Hw (acc:=dR acc) (one:=Int.ofNat j) n x hn hp (zV hj) (Nat.lt_succ_of_lt hj)
 have s3:(b9 pg (n+34)).tr (mU pl nm (dR acc) (Int.ofNat j) u) (.cmp (.OK 119) [(.eq,(.OK 21))]) (H p o g k t)=.ok (Nat.beq u pl) (H p o g k t):=Y3 (γ:=R Bool) (a:=u) (b:=pl) (l1:=D7) (f:=λu pl=>(b9 pg (n+34)).tr (mU pl nm (dR acc) (Int.ofNat j) u) (.cmp (.OK 119) [(.eq,(.OK 21))]) (H p o g k t)) (h:=λu pl=>.ok (Nat.beq u pl) (H p o g k t)) (by rfl') (Py hu) (Py hp)
 rw[hb]at s3
 refine⟨[(118,.int (Int.ofNat j)),(119,.int (Ka u))],.two _ _,(z4 (b:=lB) 1 s1).trans ((c6 (P:=pg) (r:=b9 pg (n+34)) (s:=.y6 MP LN) s2).trans ?_)⟩
 cases e:cl (λd=>c3 (eV o g N nm d)) pl (19+1) j with
 |false=>
  rw[e]at s3
  rw[cond_false,Pl]
  exact(c6 (N5 (n:=n+33) s3 rfl)).trans g5
 |true=>
  rw[e]at s3
  rw[cond_true]
  have ho:(b9 pg (n+33)).ev (mU pl nm (dR acc) (Int.ofNat j) u) (.sub (.sub (.OK 15) (.OK 118)) (.lit (V.str [111,98,106,101,99,116]))) (H p o g k t)=.ok (.int (ob j)) (H p o g k t):=M1 (β:=R V) (f:=λj=>(b9 pg (n+33)).ev (mU pl nm (dR acc) (Int.ofNat j) u) (.sub (.sub (.OK 15) (.OK 118)) (.lit (V.str [111,98,106,101,99,116]))) (H p o g k t)) (h:=λj=>.ok (.int (ob j)) (H p o g k t)) (by rfl') hj
  have eo:dR (acc++[j])=dR acc++[.int (ob j)]:=List.map_append
  rw[eo]
  exact(c6 (bh (n:=n+33) s3 ((c6 (kU (xs:=dR acc) (w:=.int (ob j)) rfl ho rfl (by unfold dR;rw[OZ];exact hz))).trans g5))).trans g5
theorem Hl (x:Wk c p o g k t N) (hn:nm∈N6) (hp:pl < 6) {l:List Nat}:∀{acc:List Nat} {y:Fr},(∀j∈l,j < 6)->acc.length+l.length≤1000->Ly y->∃y',Ly y'∧Q4 (b9 pg (n+35)) [118] lB (l.map λj=>.int (Int.ofNat j)) (mT pl nm (dR acc) y) (H p o g k t)=.ok (.next,mT pl nm (dR (acc++l.filter (cl (λd=>c3 (eV o g N nm d)) pl 20))) y') (H p o g k t):=by
 induction l with
 |nil=>exact λ{acc y} J J hy=>⟨y,hy,by rw[List.filter_nil,Pl];rfl⟩
 |cons j l ih=>
  intro acc y hl hz hy
  obtain⟨y1,hy1,e1⟩:=JX n x hn hp (hl j (.head _)) hy (OV (Nat.le_add_right _ _) hz)
  have hz2:(acc++bif cl (λd=>c3 (eV o g N nm d)) pl 20 j then[j]else[]).length+l.length≤1000:=by
   rw[List.length_append,Nat.add_assoc]
   refine OV (Pa ?_ _) hz
   rw[List.length_cons,Nat.add_comm]
   refine Pa ?_ _
   induction cl (λd=>c3 (eV o g N nm d)) pl 20 j with
   |true=>exact Pw _
   |false=>exact Nat.zero_le _
  obtain⟨y2,hy2,e2⟩:=ih (λq hq=>hl q (.tail _ hq)) hz2 hy1
  refine⟨y2,hy2,O7 e1 (e2.trans ?_)⟩
  rw[List.append_assoc,List.filter_cons]
  induction cl (λd=>c3 (eV o g N nm d)) pl 20 j<;>rfl
theorem gi (x:Wk c p o g k t N) (hn:nm∈N6) (hp:pl < 6):(b9 pg (n+37)).run 53 [.loc 8,.int (Int.ofNat pl),.str nm] (H p o g k t)=.ok (.g6 (dR (tk (λd=>c3 (eV o g N nm d)) pl))) (H p o g k t):=by
 obtain⟨y,hy,e⟩:=Hl (l:=(List.range (6 - (pl+1))).map (pl+1+ ·)) n x hn hp (acc:=[]) (y:=[]) (λj hj=>OO (List.all_eq_true.mp (e8 (β:=Bool) (a:=pl) (l:=D6) (f:=λpl=>((List.range (6 - (pl+1))).map (pl+1+ ·)).all λj=>Nat.blt j 6) (h:=λJ=>true) rfl (Py hp)) j hj)) (by rw[OZ,List.length_range];exact OV (Pa (Nat.sub_le _ _) _) (by decide)) .nil
 refine t8 (n:=n+36) (fd:=J1) (m:=[(15,.loc 8),(21,.int (Int.ofNat pl)),(14,.str nm)]) (p:=(.ret (.g6 (dR (tk (λd=>c3 (eV o g N nm d)) pl))),mT pl nm (dR (tk (λd=>c3 (eV o g N nm d)) pl)) y)) rfl rfl ?_
 refine(z4 1 (show a8 pg (b9 pg (n+35)) [(15,.loc 8),(21,.int (Int.ofNat pl)),(14,.str nm)] (J1.body.take 1) (H p o g k t)=.ok (.next,mT pl nm (dR []) []) (H p o g k t)from rfl)).trans ?_
 have hs:aI .range 1 [.int (Int.ofNat pl+1),.int 6]=some (((List.range (6 - (pl+1))).map (pl+1+ ·)).map λj=>V.int (Int.ofNat j)):=e8 (β:=Option (List V)) (a:=pl) (l:=D6) (f:=λpl=>aI .range 1 [.int (Int.ofNat pl+1),.int 6]) (h:=λpl=>some (((List.range (6 - (pl+1))).map (pl+1+ ·)).map λj=>V.int (Int.ofNat j))) (by rfl') (Py hp)
 refine(c6 (P:=pg) (r:=b9 pg (n+35)) (s:=.F2 [118] .range [(.bin .add (.OK 21) (.lit (V.int 1))),(.call (.OK 26) [(.OK 15)])] lB) (jJ (vs:=[.int (Int.ofNat pl+1),.int 6]) (by rfl') hs e)).trans (s9 ?_)
 induction hy<;>rfl
end
noncomputable def qh:Nat->List (List Bool)
 |0=>[[]]
 |n+1=>(qh n).flatMap λl=>[true::l,false::l]
theorem tU {l:List Bool}:l∈qh l.length:=by
 induction l with
 |nil=>exact .head _
 |cons b l ih=>exact List.mem_flatMap.mpr ⟨l,ih,by induction b;exact .tail _ (.head _);exact .head _⟩
noncomputable def rf (r:Nat->Bool) (m:List Bool) (d:Nat):Bool:=m.getD d (r d)
theorem qz {e:Nat->Bool} {pl:Nat} (hp:pl < 6):pre e 19 [] (kN pl)=tk e pl:=by
 have ee:rf e [e 0,e 1,e 2,e 3,e 4,e 5]=e:=funext λd=>match d with
  |0=>rfl
  |1=>rfl
  |2=>rfl
  |3=>rfl
  |4=>rfl
  |5=>rfl
  |_+6=>rfl
 have q:=Y3 (γ:=List Nat) (a:=[e 0,e 1,e 2,e 3,e 4,e 5]) (b:=pl) (l1:=qh 6) (l2:=D6) (f:=λm pl=>pre (rf e m) 19 [] (kN pl)) (h:=λm pl=>tk (rf e m) pl) (by rfl') tU (Py hp)
 rw[ee]at q
 exact q
theorem Lf {P:Pg} {n:Nat} {m:Fr} {Y c7:Hp} {e:X} {es:List X} {vs:List V} {v:V} {b:Bi} (hf:(b9 P n).ev m e Y=.ok (.bi b) Y) (he:m7 (b9 P n) m es Y=.ok vs c7) (hb:I5 P b vs c7=some v):(b9 P (n+1)).ev m (.call e es) Y=.ok v c7:=by
 refine v8 hf ?_
 show cY ((m7 (b9 P n) m es Y).bind λvs Y=>b8 88 (I5 P b vs Y) Y) _=_
 rw[he]
 show cY (b8 88 (I5 P b vs c7) c7) _=_
 rw[hb];rfl
section
variable (n:Nat)
theorem HK (f:Txt->Option V):DD (m9 univ f)=true:=by
 unfold DD
 rw[Bool.and_eq_true]
 refine⟨Pe (Pf (List.length_filter_le _ _) (by decide)),List.all_eq_true.mpr λx hx=>List.all_eq_true.mp (show univ.all t6=true by decide) x (List.mem_filter.mp hx).1⟩
theorem Cs (n:Nat) (hd:d < 6):(b9 pg (n+5)).run 4 [.loc 1,.int (zp d)] (H p o g k t)=.ok (.loc ([6,10,13,16,19,22].getD d 0)) (H p o g k t):=M1 (β:=R V) (f:=λd=>(b9 pg (n+5)).run 4 [.loc 1,.int (zp d)] (H p o g k t)) (h:=λd=>.ok (.loc ([6,10,13,16,19,22].getD d 0)) (H p o g k t)) (by rfl') hd
theorem Nh (hd:d < 6):(H p o g k t)[[6,10,13,16,19,22].getD d 0]? =some (p d):=M1 (f:=λd=>(H p o g k t)[[6,10,13,16,19,22].getD d 0]?) (h:=λd=>some (p d)) (by rfl') hd
theorem nK {l:Nat} {x:O} (hl:Y[l]? =some x) (hx:A6 x):I5 pg .sorted [.loc l] Y=some (.g6 ((m9 univ (fo x)).map .str)):=by
 show(((Y[l]?).bind λo=>((ir o).bind λf=>LQ (m9 pg.univ f)).or <|(oj o).map λJ=>.g6 []).or _)=_
 rw[hl]
 induction hx with
 |emp=>rfl
 |map f h=>
  show(((gd (DD (m9 univ f)) (V.g6 ((m9 univ f).map .str))).or _).or _)=_
  rw[HK];rfl
theorem zf (hd:d < 6) (hc:A6 (p d)):(b9 pg (n+10)).run 8 [.loc 1,.int (zp d)] (H p o g k t)=.ok (.g6 ((m9 univ (fo (p d))).map .str)) (H p o g k t):=by
 have h1:(b9 pg (n+7)).ev [(6,.loc 1),(13,.int (zp d))] (.l5 (.OK 6) 15 [(.OK 13)]) (H p o g k t)=.ok (.loc ([6,10,13,16,19,22].getD d 0)) (H p o g k t):=fX (n:=n+6) (ov:=.loc 1) (c:=0) (k:=4) (u:=()) (vs:=[.int (zp d)]) rfl rfl rfl rfl rfl (Cs (n+1) hd)
 have h2:m7 (b9 pg (n+7)) [(6,.loc 1),(13,.int (zp d))] [.l5 (.OK 6) 15 [(.OK 13)]] (H p o g k t)=.ok [.loc ([6,10,13,16,19,22].getD d 0)] (H p o g k t):=v8 h1 rfl
 have h3:(b9 pg (n+8)).ev [(6,.loc 1),(13,.int (zp d))] (.call (.OK 18) [.l5 (.OK 6) 15 [(.OK 13)]]) (H p o g k t)=.ok (.g6 ((m9 univ (fo (p d))).map .str)) (H p o g k t):=Lf (n:=n+7) (b:=.sorted) rfl h2 (nK (Nh hd) hc)
 exact t8 (n:=n+9) (fd:=S0) (m:=[(6,.loc 1),(13,.int (zp d))]) (p:=(.ret (.g6 ((m9 univ (fo (p d))).map .str)),[(6,.loc 1),(13,.int (zp d))])) rfl rfl (s9 (B2 rfl h3 rfl))
noncomputable def xx:List S:=match A4.body with
 |_::.F2 _ _ _ b::_=>b
 |_=>[]
noncomputable def qj (d:Nat) (sg:Txt) (acc:List V) (y:Fr):Fr:=[(41,.loc 1),(21,.int (ob d)),(95,.str sg),(94,.g6 acc),(32,.int (zp d))]++y
inductive Vy:Fr->Prop
 |nil:Vy []
 |two (a b:Txt):Vy [(14,.str a),(96,.str b)]
noncomputable abbrev vM (d:Nat) (sg:Txt) (acc:List V) (x b:Txt):Fr:=qj d sg acc [(14,.str x),(96,.str b)]
noncomputable def mM:List (Txt×Txt):=B8 ((V7.map (· ++y3))++(V7.map (· ++u4))) [[]]++B8 (V7++V7.map (· ++y3)) [u4]
noncomputable def Iw (q:Txt×Txt):Txt:=Mine.cut none (some (Int.ofNat q.1.length - Int.ofNat q.2.length)) q.1
theorem xF (n:Nat):mM.map (λq=>a8 pg (b9 pg (n+20)) (putN (qj d q.2 acc []) 14 (.str q.1)) xx Y)=mM.foldr (λq r=>.ok (.next,vM d q.2 acc q.1 (Iw q)) Y::r) []:=by rfl'
theorem xE (n:Nat) (a b:Txt):mM.map (λq=>a8 pg (b9 pg (n+20)) (putN (qj d q.2 acc [(14,.str a),(96,.str b)]) 14 (.str q.1)) xx Y)=mM.foldr (λq r=>.ok (.next,vM d q.2 acc q.1 (Iw q)) Y::r) []:=by rfl'
theorem BJ (n:Nat) {x sg:Txt} (hq:(x,sg)∈mM) (hy:Vy y):a8 pg (b9 pg (n+20)) (putN (qj d sg acc y) 14 (.str x)) xx Y=.ok (.next,vM d sg acc x (Iw (x,sg))) Y:=by
 induction hy with
 |nil=>
  have q:=e8 (xF (d:=d) (acc:=acc) (Y:=Y) n) hq
  exact q
 |two a b=>
  have q:=e8 (xE (d:=d) (acc:=acc) (Y:=Y) n a b) hq
  exact q
end
noncomputable abbrev sJ:List Txt:=[[],u4]
noncomputable def NB:X:=dm (xx.getD 1 .pass)
variable {sg:Txt}
section
variable (n:Nat)
theorem Jg (n:Nat):(B8 V7 sJ).map (λq=>a8 pg (b9 pg (n+20)) (putN (qj d q.2 acc []) 14 (.str (q.1++q.2))) (xx.take 1) Y)=(B8 V7 sJ).foldr (λq r=>.ok (.next,vM d q.2 acc (q.1++q.2) q.1) Y::r) []:=by rfl'
theorem Jf (n:Nat) (a b:Txt):(B8 V7 sJ).map (λq=>a8 pg (b9 pg (n+20)) (putN (qj d q.2 acc [(14,.str a),(96,.str b)]) 14 (.str (q.1++q.2))) (xx.take 1) Y)=(B8 V7 sJ).foldr (λq r=>.ok (.next,vM d q.2 acc (q.1++q.2) q.1) Y::r) []:=by rfl'
theorem Je (n:Nat):(B8 V7 sJ).map (λq=>(b9 pg (n+20)).tr (vM d q.2 acc (q.1++q.2) q.1) NB Y)=(B8 V7 sJ).foldr (λq r=>.ok true Y::r) []:=by rfl'
theorem Hm (hn:nm∈V7) (hs:sg∈sJ):(nm++sg)∈Eo V7:=(OW hs).elim (λe=>by rw[e,Pl];exact Dk hn) λe=>by rw[OX e];exact Di hn
theorem BI (hd:d < 6) (hc:A6 (p d)) (hn:nm∈V7) (hs:sg∈sJ) (hy:Vy y) (A:Acc nm v i) (hv:fo (p d) (nm++sg)=some (.int i)) (hz:acc.length≤1000):
 a8 pg (b9 pg (n+65)) (putN (qj d sg acc y) 14 (.str (nm++sg))) xx (H p o g k t)=.ok (.next,vM d sg (acc++[.tup [.str nm,v]]) (nm++sg) nm) (H p o g k t):=by
 have h1:a8 pg (b9 pg (n+65)) (putN (qj d sg acc y) 14 (.str (nm++sg))) (xx.take 1) (H p o g k t)=.ok (.next,vM d sg acc (nm++sg) nm) (H p o g k t):=by
  induction hy with
  |nil=>
   have q:=e8 (Jg (d:=d) (acc:=acc) (Y:=H p o g k t) (n+45)) (fY hn hs)
   exact q
  |two a b=>
   have q:=e8 (Jf (d:=d) (acc:=acc) (Y:=H p o g k t) (n+45) a b) (fY hn hs)
   exact q
 have h2:(b9 pg (n+65)).tr (vM d sg acc (nm++sg) nm) NB (H p o g k t)=.ok true (H p o g k t):=by
  have q:=e8 (Je (d:=d) (acc:=acc) (Y:=H p o g k t) (n+45)) (fY hn hs)
  exact q
 have hg:(b9 pg (n+61)).run 5 [.loc 1,.int (zp d),.str (nm++sg)] (H p o g k t)=.ok (.int i) (H p o g k t):=(Ab (o:=o) (g:=g) (k:=k) (t:=t) (n+51) hd (JO (Hm hn hs)) hc).trans (by rw[hv];rfl)
 have he:(b9 pg (n+64)).ev (vM d sg acc (nm++sg) nm) (.tuple [(.OK 96),(.call (.OK 97) [(.OK 96),(.l5 (.OK 41) 1 [(.OK 32),(.OK 14)])])]) (H p o g k t)=.ok (.tup [.str nm,v]) (H p o g k t):=
  FP (n:=n+63) (vs:=[.str nm,v]) (i5 (I2 (n:=n+62) (v:=.str nm) (w:=.str nm) rfl rfl) rfl (i5 (j0 (n:=n+62) (k:=32) (vs:=[.str nm,.int i]) rfl (i5 (I2 (n:=n+61) (v:=.str nm) (w:=.str nm) rfl rfl) rfl (i5 (fX (n:=n+61) (ov:=.loc 1) (c:=0) (k:=5) (u:=()) (vs:=[.int (zp d),.str (nm++sg)]) rfl rfl rfl rfl rfl hg) rfl rfl)) (A.val (n+2) _)) (bj A.q) rfl)) (by show 2≤1000;decide)
 exact(z4 (b:=xx) 1 h1).trans ((c6 (bh (n:=n+64) h2 ((c6 (kU (xs:=acc) (w:=.tup [.str nm,v]) rfl he rfl hz)).trans g5))).trans g5)
end
noncomputable def tv (a:Txt->Option V) (nm:Txt):List V:=(a nm).elim [] λv=>[.tup [.str nm,v]]
noncomputable def uv (a:Txt->Option V) (sg x:Txt):List V:=(V7.find? λnm=>r5 x (nm++sg)).elim [] (tv a)
theorem wg:(B8 V7 sJ).map (λq=>V7.find? λnm=>r5 (q.1++q.2) (nm++q.2))=(B8 V7 sJ).foldr (λq r=>some q.1::r) []:=by rfl'
theorem wh:mM.map (λq=>V7.find? λnm=>r5 q.1 (nm++q.2))=mM.foldr (λq r=>none::r) []:=by rfl'
section
variable {x:Txt} (n:Nat)
theorem Az (hn:nm∈V7) (hs:sg∈sJ):uv a sg (nm++sg)=tv a nm:=by
 have q:=e8 wg (fY hn hs)
 exact OY (λo=>Option.elim o [] (tv a)) q
theorem AA (h:(x,sg)∈mM):uv a sg x=[]:=by
 have q:=e8 wh h
 exact OY (λo=>Option.elim o [] (tv a)) q
inductive IG (f a:Txt->Option V) (sg x:Txt):Prop
 |take (nm:Txt) (i:Int) (v:V) (hn:nm∈V7) (e:x=nm++sg) (A:Acc nm v i) (hf:f (nm++sg)=some (.int i)) (ha:a nm=some v)
 |skip (h:(x,sg)∈mM)
theorem uS (hd:d < 6) (hc:A6 (p d)) (hs:sg∈sJ) (hy:Vy y) (h:IG (fo (p d)) a sg x) (hz:acc.length≤1000):∃y',Vy y'∧a8 pg (b9 pg (n+65)) (putN (qj d sg acc y) 14 (.str x)) xx (H p o g k t)=.ok (.next,qj d sg (acc++uv a sg x) y') (H p o g k t):=by
 induction h with
 |take nm i v hn e A hf ha=>
  subst e
  rw[Az hn hs,show tv a nm=[.tup [.str nm,v]]from by unfold tv;rw[ha];rfl]
  exact⟨_,.two _ _,BI n hd hc hn hs hy A hf hz⟩
 |skip h=>
  rw[AA h,Pl]
  exact⟨_,.two _ _,BJ (n+45) h hy⟩
theorem DR:(uv a sg x).length≤1:=by
 unfold uv tv
 induction V7.find? λnm=>r5 x (nm++sg)with
 |none=>exact Nat.zero_le _
 |some nm=>
  show((a nm).elim [] λv=>[V.tup [.str nm,v]]).length≤1
  induction a nm with
  |none=>exact Nat.zero_le _
  |some v=>exact Pw _
theorem uT (hd:d < 6) (hc:A6 (p d)) (hs:sg∈sJ) {l:List Txt}:∀{acc:List V} {y:Fr},(∀x∈l,IG (fo (p d)) a sg x)->acc.length+l.length≤1000->Vy y->∃y',Vy y'∧Q4 (b9 pg (n+66)) [14] xx (l.map .str) (qj d sg acc y) (H p o g k t)=.ok (.next,qj d sg (acc++l.flatMap (uv a sg)) y') (H p o g k t):=by
 induction l with
 |nil=>exact λ{acc y} J J hy=>⟨y,hy,by rw[List.flatMap_nil,Pl];rfl⟩
 |cons x l ih=>
  intro acc y hl hz hy
  obtain⟨y1,hy1,e1⟩:=uS (o:=o) (g:=g) (k:=k) (t:=t) n hd hc hs hy (hl x (.head _)) (OV (Nat.le_add_right _ _) hz)
  have hz2:(acc++uv a sg x).length+l.length≤1000:=by
   rw[List.length_append,Nat.add_assoc]
   refine OV (Pa ?_ _) hz
   rw[List.length_cons,Nat.add_comm]
   exact Pa DR _
  obtain⟨y2,hy2,e2⟩:=ih (λq hq=>hl q (.tail _ hq)) hz2 hy1
  refine⟨y2,hy2,O7 e1 (e2.trans ?_)⟩
  rw[List.append_assoc,List.flatMap_cons]
end
theorem we {α β:Type} {f:α->List β} {q:α->Bool} {l:List α} (h:∀x,q x=false->f x=[]):(l.filter q).flatMap f=l.flatMap f:=by
 induction l with
 |nil=>rfl
 |cons a l ih=>
  rw[List.filter_cons,List.flatMap_cons]
  cases e:q a with
  |true=>exact OY (f a++ ·) ih
  |false=>rw[h a e];exact ih
theorem xJ {a:Txt->Option V} {sg:Txt} (hs:sg∈sJ):univ.flatMap (uv a sg)=V7.flatMap (tv a):=(OW hs).elim (λe=>e▸(show univ.flatMap (uv a [])=V7.flatMap (tv a) by rfl')) λe=>OX e▸(show univ.flatMap (uv a u4)=V7.flatMap (tv a) by rfl')
section
variable {b:List S} {z:R (Fl×Fr)}
theorem Af (he:m7 r m it Y=.ok [.g6 items] Y) (h:Q4 r [x] b items m Y=z):g8 P r m (.F2 [x] .val it b) Y=z:=by
 show((m7 r m it Y).z6).bind _=_
 rw[he]
 exact h
end
section
variable {x:Txt} {b:Txt->Option V} {ns:List Txt} (n:Nat)
theorem BK (hd:d < 6):a8 pg (b9 pg (n+66)) [(41,.loc 1),(21,.int (ob d)),(95,.str sg)] (A4.body.take 1) (H p o g k t)=.ok (.next,qj d sg [] []) (H p o g k t):=M1 (β:=R (Fl×Fr)) (f:=λd=>a8 pg (b9 pg (n+66)) [(41,.loc 1),(21,.int (ob d)),(95,.str sg)] (A4.body.take 1) (H p o g k t)) (h:=λd=>.ok (.next,qj d sg [] []) (H p o g k t)) (by rfl') hd
theorem Ew (hd:d < 6) (hc:A6 (p d)) (hs:sg∈sJ) (ht:∀x∈m9 univ (fo (p d)),IG (fo (p d)) a sg x) (h0:∀x,fo (p d) x=none->uv a sg x=[]):
 (b9 pg (n+68)).run 39 [.loc 1,.int (ob d),.str sg] (H p o g k t)=.ok (.g6 (V7.flatMap (tv a))) (H p o g k t):=by
 obtain⟨y,hy,e⟩:=uT (o:=o) (g:=g) (k:=k) (t:=t) n hd hc hs (acc:=[]) (y:=[]) ht (OV (Pa (List.length_filter_le _ _) _) (by decide)) .nil
 have ef:(m9 univ (fo (p d))).flatMap (uv a sg)=V7.flatMap (tv a):=(we λx hx=>h0 x (by
  induction q:fo (p d) x with
  |none=>rfl
  |some v=>rw[q]at hx;exact Bool.noConfusion hx)).trans (xJ hs)
 rw[List.nil_append,ef]at e
 have hn:m7 (b9 pg (n+66)) (qj d sg [] []) [.l5 (.OK 41) 56 [.OK 32]] (H p o g k t)=.ok [.g6 ((m9 univ (fo (p d))).map .str)] (H p o g k t):=v8 (fX (n:=n+65) (ov:=.loc 1) (c:=0) (k:=8) (u:=()) (vs:=[.int (zp d)]) rfl rfl rfl rfl rfl (zf (n+55) hd hc)) rfl
 refine t8 (n:=n+67) (fd:=A4) (m:=[(41,.loc 1),(21,.int (ob d)),(95,.str sg)]) (p:=(.ret (.g6 (V7.flatMap (tv a))),qj d sg (V7.flatMap (tv a)) y)) rfl rfl ?_
 refine(z4 1 (BK n hd)).trans ((c6 (P:=pg) (r:=b9 pg (n+66)) (s:=.F2 [14] .val [.l5 (.OK 41) 56 [.OK 32]] xx) (Af hn e)).trans (s9 ?_))
 induction hy<;>rfl
theorem bg (h:x∈m9 univ f):f x≠none:=λe=>by
 have q:=(List.mem_filter.mp h).2
 rw[e]at q
 exact Bool.noConfusion q
theorem jg {p q:Option V} (h:cQ nm p q) (e:p≠none):∃i v,p=some (.int i)∧q=some v∧Acc nm v i:=by
 induction h with
 |none=>exact absurd rfl e
 |some i v A=>exact⟨i,v,rfl,rfl,A⟩
theorem pq {sg:Txt} (h:∀nm,nm∈V7->x=nm++sg->a nm=none):uv a sg x=[]:=by
 unfold uv
 cases e:V7.find? λnm=>r5 x (nm++sg)with
 |none=>rfl
 |some nm=>
  show tv a nm=[]
  unfold tv
  rw[h nm (List.mem_of_find?_eq_some e) (Mine.D1.mp (List.find?_some (p:=λnm=>r5 x (nm++sg)) e))];rfl
theorem fK (x:Wk c p o g k t N) (hd:d < 6):(b9 pg (n+68)).run 39 [.loc 1,.int (ob d),.str []] (H p o g k t)=.ok (.g6 (V7.flatMap (tv (fo (o d))))) (H p o g k t):=
 have D:=x.d d hd
 Ew n hd (x.w.p d hd) (.head _) (λz hz=>(D.keys z (bg hz)).elim λnm q=>q.2.elim (λe=>match jg (D.own nm q.1) (e▸bg hz)with
  |⟨i,v,e1,e2,A⟩=>.take nm i v q.1 (by rw[e,Pl]) A (by rw[Pl];exact e1) e2) λe=>.skip (OQ _ (fY (e.elim (λe=>OQ _ (List.mem_map.mpr ⟨nm,q.1,e.symm⟩)) λe=>OS _ (List.mem_map.mpr ⟨nm,q.1,e.symm⟩)) (.head _))))
  λz hz=>pq λnm hn e=>by
   have e:z=nm:=e.trans (Pl nm)
   subst e
   have q:=D.own z hn
   rw[hz]at q
   generalize fo (o d) z=b at q⊢
   cases q;rfl
theorem gC (x:Wk c p o g k t N) (hd:d < 6):(b9 pg (n+68)).run 39 [.loc 1,.int (ob d),.str u4] (H p o g k t)=.ok (.g6 (V7.flatMap (tv (fo (g d))))) (H p o g k t):=
 have D:=x.d d hd
 Ew n hd (x.w.p d hd) (.tail _ (.head _)) (λz hz=>(D.keys z (bg hz)).elim λnm q=>q.2.elim (λe=>.skip (OS _ (fY (OQ _ (e▸q.1)) (.head _)))) λe=>e.elim (λe=>.skip (OS _ (fY (OS _ (List.mem_map.mpr ⟨nm,q.1,e.symm⟩)) (.head _)))) λe=>match jg (D.got nm q.1) (e▸bg hz)with
  |⟨i,v,e1,e2,A⟩=>.take nm i v q.1 e A e1 e2)
  λz hz=>pq λnm hn e=>by
   subst e
   have q:=D.got nm hn
   rw[hz]at q
   generalize fo (g d) nm=b at q⊢
   cases q;rfl
theorem zu (x:Wk c p o g k t N) (hd:d < 6):(b9 pg (n+72)).run 40 [.loc 1,.int (ob d)] (H p o g k t)=.ok (.g6 (V7.flatMap (tv (fo (o d))))) (H p o g k t):=
 t8 (n:=n+71) (fd:=Y8) (m:=[(41,.loc 1),(21,.int (ob d))]) (p:=(.ret (.g6 (V7.flatMap (tv (fo (o d))))),[(41,.loc 1),(21,.int (ob d))])) rfl rfl (s9 (B2 rfl (j0 (n:=n+69) (k:=39) (vs:=[.loc 1,.int (ob d),.str []]) rfl rfl (fK (n+1) x hd)) rfl))
theorem Ct (x:Wk c p o g k t N) (hd:d < 6):(b9 pg (n+72)).run 41 [.loc 1,.int (ob d)] (H p o g k t)=.ok (.g6 (V7.flatMap (tv (fo (g d))))) (H p o g k t):=
 t8 (n:=n+71) (fd:=O9) (m:=[(41,.loc 1),(21,.int (ob d))]) (p:=(.ret (.g6 (V7.flatMap (tv (fo (g d))))),[(41,.loc 1),(21,.int (ob d))])) rfl rfl (s9 (B2 rfl (j0 (n:=n+69) (k:=39) (vs:=[.loc 1,.int (ob d),.str u4]) rfl rfl (gC (n+1) x hd)) rfl))
end
theorem An:∀x:D,jN x x=true:=λx=>D.rec (motive_1:=λx=>jN x x=true) (motive_2:=λl=>wB l l=true) rfl (λb=>by induction b<;>rfl) (λi=>decide_eq_true rfl) (λs=>G8 s) (λt xs ih=>by
 show(t == t&&wB xs xs)=true
 rw[ih];induction t<;>rfl) rfl (λx xs h1 h2=>by
 show(jN x x&&wB xs xs)=true
 rw[h1,h2];rfl) x
theorem pb {v:V} {x:D} (h:dat 8 v=some x):Am v v=some true:=by
 unfold Am
 rw[h]
 exact OY some (An x)
theorem wI {f:V->Option D} {l:List V} (h:∀v∈l,∃x,f v=some x):∃xs,U3 f l=some xs:=by
 induction l with
 |nil=>exact⟨[],rfl⟩
 |cons v l ih=>
  obtain⟨x,hx⟩:=h v (.head _)
  obtain⟨xs,hxs⟩:=ih λu hu=>h u (.tail _ hu)
  exact⟨x::xs,by
   show(f v).bind (λd=>(U3 f l).map (d:: ·))=_
   rw[hx,hxs];rfl⟩
theorem gQ {l:List V} (h:∀v∈l,∃x,dat 7 v=some x):∃x,dat 8 (.g6 l)=some x:=(wI h).elim λxs e=>⟨.seq false xs,by
 show((U3 (dat 7) l).map (D.seq false))=_
 rw[e];rfl⟩
theorem Au {s:Txt} {v:V} (h:mV v=true):∃x,dat 7 (.tup [.str s,v])=some x:=ak (G:=λv=>∃x,dat 7 (.tup [.str s,v])=some x) h ⟨_,rfl⟩ (λJ=>⟨_,rfl⟩) λJ=>⟨_,rfl⟩
theorem ET {v:V} (h:isQ v=true):mV v=true:=by unfold mV;rw[h];rfl
theorem xM {a:Txt->Option V} (h:∀nm v,a nm=some v->isQ v=true):∃x,dat 8 (.g6 (V7.flatMap (tv a)))=some x:=gQ λv hv=>match List.mem_flatMap.mp hv with
 |⟨nm,_,hm⟩=>by
  unfold tv at hm
  cases e:a nm with
  |none=>rw[e]at hm;exact nomatch hm
  |some u=>
   rw[e]at hm
   rw[OX hm]
   exact Au (ET (h nm u e))
theorem BM:univ.filter (λx=>V7.any (r5 x))=V7:=by rfl'
theorem Dh {a:Txt->Option V} (h:∀q,a q≠none->q∈V7):m9 univ a=V7.filter λk=>(a k).isSome:=by
 have e:univ.filter (λk=>(a k).isSome)=(univ.filter λx=>V7.any (r5 x)).filter λk=>(a k).isSome:=by
  rw[List.filter_filter]
  refine List.filter_congr λx J=>?_
  induction q:a x with
  |none=>rfl
  |some v=>
   have hx:=h x (by rw[q];exact nofun)
   exact(Bool.and_eq_true_iff.mpr ⟨rfl,List.any_eq_true.mpr ⟨x,hx,G8 x⟩⟩).symm
 exact e.trans (by rw[BM])
theorem zJ {a:Txt->Option V} {l:List Txt}:(l.filter λk=>(a k).isSome).map (λk=>V.tup [.str k,(a k).getD .none])=l.flatMap (tv a):=by
 induction l with
 |nil=>rfl
 |cons x l ih=>
  rw[List.filter_cons,List.flatMap_cons]
  unfold tv
  induction q:a x with
  |none=>exact ih
  |some v=>
   rw[show(some v:Option V).isSome=true from rfl,Pp rfl,List.map_cons,q]
   exact OY (V.tup [.str x,v]:: ·) ih
section
variable {x:O}
theorem oF (he:(b9 pg n).ev m e Y=.ok (.loc l) Y) (hl:Y[l]? =some x) (hx:Cl x) (h:∀q,fo x q≠none->q∈V7):(b9 pg (n+1)).ev m (.l4 e) Y=.ok (.g6 (V7.flatMap (tv (fo x)))) Y:=by
 refine v8 he ?_
 show(b8 103 (Y[l]?) Y).bind _=_
 rw[hl]
 induction hx with
 |emp=>rfl
 |map f=>
  have hk:m9 univ f=V7.filter λk=>(f k).isSome:=Dh h
  have hg:(Nat.blt (m9 univ f).length 8&&(m9 univ f).all t6)=true:=by
   rw[hk]
   exact Bool.and_eq_true_iff.mpr ⟨Pe (Nat.succ_le_succ (OV (List.length_filter_le _ _) (by decide))),List.all_eq_true.mpr λy hy=>List.all_eq_true.mp (show V7.all t6=true by decide) y (List.mem_filter.mp hy).1⟩
  show cY ((b8 103 (gd (Nat.blt (m9 univ f).length 8&&(m9 univ f).all t6) ()) Y).bind λJ Y=>R.ok (V.g6 ((m9 univ f).map λk=>V.tup [V.str k,(f k).getD V.none])) Y) _=_
  rw[hg,hk,zJ]
  rfl
end
section
variable {w:V} {a:X} {as:List X} {b1:Bool}
theorem ND (h1:r.tr m a Y=.ok b1 Y) (h:b1=false->bQ r m false as Y=.ok b Y):bQ r m false (a::as) Y=.ok (b1 || b) Y:=by
 show((r.tr m a Y).bind λt Y=>bif t == false then bQ r m false as Y else R.ok t Y)=_
 rw[h1]
 induction b1 with
 |true=>rfl
 |false=>exact h rfl
theorem dT {d:D} (he:(b9 P n).ev m e Y=.ok v Y) (hd:dat 8 v=some d):Z0 (b9 P n) m v [(.ne,e)] Y=.ok false Y:=by
 refine v8 he ?_
 show(b8 74 ((Am v v).map not) Y).bind _=_
 rw[pb hd];rfl
theorem bu {d:D} (he:(b9 P n).ev m e Y=.ok v Y) (hd:dat 8 v=some d):Z0 (b9 P n) m v [(.eq,e)] Y=.ok true Y:=by
 refine v8 he ?_
 show(b8 74 (Am v v) Y).bind _=_
 rw[pb hd];rfl
end
section
variable (n:Nat)
noncomputable def Mx:List X:=[(.cmp (.call (.OK 128) [(.OK 41),(.OK 28)]) [(.ne,(.l4 (.sub (.sub (.OK 15) (.OK 21)) (.lit (V.str [111,119,110])))))]),(.cmp (.call (.OK 129) [(.OK 41),(.OK 28)]) [(.ne,(.l4 (.sub (.sub (.OK 15) (.OK 21)) (.lit (V.str [103,111,116])))))])]
noncomputable def mQ (d:Nat) (nm:Txt):Fr:=[(41,.loc 1),(15,.loc 8),(21,.int (Int.ofNat d)),(14,.str nm),(28,.int (ob d))]
theorem Mt (hd:d < 6):a8 pg (b9 pg (n+80)) [(41,.loc 1),(15,.loc 8),(21,.int (Int.ofNat d)),(14,.str nm)] (m6.body.take 1) (H p o g k t)=.ok (.next,mQ d nm) (H p o g k t):=M1 (β:=R (Fl×Fr)) (f:=λd=>a8 pg (b9 pg (n+80)) [(41,.loc 1),(15,.loc 8),(21,.int (Int.ofNat d)),(14,.str nm)] (m6.body.take 1) (H p o g k t)) (h:=λd=>.ok (.next,mQ d nm) (H p o g k t)) (by rfl') hd
theorem Ni (hd:d < 6):(H p o g k t)[ol d]? =some (o d):=M1 (f:=λd=>(H p o g k t)[ol d]?) (h:=λd=>some (o d)) (by rfl') hd
theorem Nj (hd:d < 6):(H p o g k t)[gq d]? =some (g d):=M1 (f:=λd=>(H p o g k t)[gq d]?) (h:=λd=>some (g d)) (by rfl') hd
theorem Cz (x:Wk c p o g k t N) (hd:d < 6):a8 pg (b9 pg (n+80)) (mQ d nm) ((m6.body.drop 1).take 1) (H p o g k t)=.ok (.next,mQ d nm) (H p o g k t):=by
 have D:=x.d d hd
 obtain⟨d1,e1⟩:=xM (a:=fo (o d)) λq v e=>(tE x hd).1 v e
 obtain⟨d2,e2⟩:=xM (a:=fo (g d)) λq v e=>(tE x hd).2 v e
 have ho:(b9 pg (n+77)).ev (mQ d nm) (.sub (.sub (.OK 15) (.OK 21)) (.lit (V.str [111,119,110]))) (H p o g k t)=.ok (.loc (ol d)) (H p o g k t):=M1 (β:=R V) (f:=λd=>(b9 pg (n+77)).ev (mQ d nm) (.sub (.sub (.OK 15) (.OK 21)) (.lit (V.str [111,119,110]))) (H p o g k t)) (h:=λd=>.ok (.loc (ol d)) (H p o g k t)) (by rfl') hd
 have hg:(b9 pg (n+77)).ev (mQ d nm) (.sub (.sub (.OK 15) (.OK 21)) (.lit (V.str [103,111,116]))) (H p o g k t)=.ok (.loc (gq d)) (H p o g k t):=M1 (β:=R V) (f:=λd=>(b9 pg (n+77)).ev (mQ d nm) (.sub (.sub (.OK 15) (.OK 21)) (.lit (V.str [103,111,116]))) (H p o g k t)) (h:=λd=>.ok (.loc (gq d)) (H p o g k t)) (by rfl') hd
 have h1:(b9 pg (n+79)).tr (mQ d nm) (.cmp (.call (.OK 128) [(.OK 41),(.OK 28)]) [(.ne,(.l4 (.sub (.sub (.OK 15) (.OK 21)) (.lit (V.str [111,119,110])))))]) (H p o g k t)=.ok false (H p o g k t):=iL (n:=n+78) (j0 (n:=n+77) (k:=40) (vs:=[.loc 1,.int (ob d)]) rfl rfl (zu (n+5) x hd)) (dT (oF ho (Ni hd) (x.w.o d hd) D.ka) e1)
 have h2:(b9 pg (n+79)).tr (mQ d nm) (.cmp (.call (.OK 129) [(.OK 41),(.OK 28)]) [(.ne,(.l4 (.sub (.sub (.OK 15) (.OK 21)) (.lit (V.str [103,111,116])))))]) (H p o g k t)=.ok false (H p o g k t):=iL (n:=n+78) (j0 (n:=n+77) (k:=41) (vs:=[.loc 1,.int (ob d)]) rfl rfl (Ct (n+5) x hd)) (dT (oF hg (Nj hd) (x.w.g d hd) D.kg) e2)
 have ht:bQ (b9 pg (n+79)) (mQ d nm) false Mx (H p o g k t)=.ok false (H p o g k t):=ND (b1:=false) (b:=false) h1 λJ=>ND (as:=[]) (b1:=false) (b:=false) h2 λJ=>rfl
 have ht2:(b9 pg (n+80)).tr (mQ d nm) (.mN Mx) (H p o g k t)=.ok false (H p o g k t):=ht
 exact(c6 (s:=.ite (.mN Mx) [.ret (.lit (V.bool false))] []) (N5 (n:=n+79) ht2 rfl)).trans g5
end
section
theorem pB (h:(b9 P n).ev m e Y=.ok v c7) (k:Z0 (b9 P n) m v rs c7=.ok b u3):(b9 P (n+1)).ev m (.cmp e rs) Y=.ok (.bool b) u3:=v8 h (v8 k rfl)
end
section
variable (n:Nat)
theorem oa (n:Nat) (hn:nm∈NM) (hb:B6 nm=true):(b9 pg (n+67)).run 43 [.loc 1,.int (ob d),.str nm] Y=.exc (I4 nm) Y:=
 aN (n:=n+66) (fd:=E0) (m:=[(41,.loc 1),(21,.int (ob d)),(14,.str nm)]) rfl rfl (aL (az (U5 (n:=n+64) (k:=30) (vs:=[.str nm]) rfl rfl (gj (n+14) _ hn hb))))
theorem Cw (n:Nat):NM.map (λnm=>(b9 pg (n+80)).tr (mQ d nm) (dm (m6.body.getD 2 .pass)) Y)=NM.foldr (λnm r=>.ok (B6 nm) Y::r) []:=by rfl'
theorem tw (n:Nat):NM.map (λnm=>(b9 pg (n+20)).ev (mQ d nm) (.tuple [(.bin .add (.lit (V.str [110,111,32,115,117,99,104,32,112,114,111,112,101,114,116,121,58,32])) (.OK 14)),(.lit V.none)]) Y)=NM.foldr (λnm r=>.ok (.tup [.str (I4 nm),.none]) Y::r) []:=by rfl'
theorem yH (n:Nat) (hn:nm∈NM):(b9 pg (n+80)).tr (mQ d nm) (dm (m6.body.getD 2 .pass)) Y=.ok (B6 nm) Y:=by
 have q:=e8 (Cw (d:=d) (Y:=Y) n) hn
 exact q
theorem Jw (hn:nm∈NM) (hb:B6 nm=true):a8 pg (b9 pg (n+80)) (mQ d nm) (m6.body.drop 2) Y=.ok (.ret (.bool true),mQ d nm) Y:=by
 have h1:=yH (d:=d) (Y:=Y) n hn
 rw[hb]at h1
 have h2:(b9 pg (n+77)).ev (mQ d nm) (.tuple [(.bin .add (.lit (V.str [110,111,32,115,117,99,104,32,112,114,111,112,101,114,116,121,58,32])) (.OK 14)),(.lit V.none)]) Y=.ok (.tup [.str (I4 nm),.none]) Y:=by
  have q:=e8 (tw (d:=d) (Y:=Y) (n+57)) hn
  exact q
 have h3:(b9 pg (n+77)).ev (mQ d nm) (.A3 (.call (.OK 105) [(.OK 41),(.OK 28),(.OK 14)])) Y=.ok (.tup [.str (I4 nm),.none]) Y:=Aa (n:=n+76) rfl (U5 (n:=n+75) (k:=43) (vs:=[.loc 1,.int (ob d),.str nm]) rfl rfl (oa (n+8) hn hb))
 have h4:(b9 pg (n+78)).ev (mQ d nm) (.cmp (.A3 (.call (.OK 105) [(.OK 41),(.OK 28),(.OK 14)])) [(.eq,(.tuple [(.bin .add (.lit (V.str [110,111,32,115,117,99,104,32,112,114,111,112,101,114,116,121,58,32])) (.OK 14)),(.lit V.none)]))]) Y=.ok (.bool true) Y:=pB h3 (bu h2 rfl)
 exact s9 (bh (n:=n+79) h1 (s9 (B2 rfl (show(b9 pg (n+79)).ev (mQ d nm) _ Y=_ from pB (n:=n+78) (Aa (n:=n+77) rfl (U5 (n:=n+76) (k:=43) (vs:=[.loc 1,.int (ob d),.str nm]) rfl rfl (oa (n+9) hn hb))) (bu (by have q:=e8 (tw (d:=d) (Y:=Y) (n+58)) hn;exact q) rfl)) rfl)))
theorem Fp (hn:nm∈V7):um nm=ip nm:=e8 (β:=V) (a:=nm) (f:=um) (h:=ip) (by rfl') hn
theorem yQ (x:Wk c p o g k t N) (hn:nm∈N6) (hz:mV z=true):mV (pV o g N z nm s)=true:=by
 unfold pV
 cases e:Nat.blt s 6 with
 |false=>exact hz
 |true=>
  show mV ((eV o g N nm s).getD .none)=true
  induction q:eV o g N nm s with
  |none=>rfl
  |some v=>exact ET (fJ (S8 x (OO e) hn) q)
theorem wH {s:Txt} {v:V} (h:mV v=true):∃x,dat 8 (.tup [v,.str s])=some x:=ak (G:=λv=>∃x,dat 8 (.tup [v,.str s])=some x) h ⟨_,rfl⟩ (λJ=>⟨_,rfl⟩) λJ=>⟨_,rfl⟩
end
noncomputable def qB:List S:=match m6.body.getD 3 .pass with
 |.F2 _ _ _ b=>b
 |_=>[]
noncomputable def mW (d:Nat) (nm:Txt) (j:Nat):Fr:=mQ d nm++[(118,.int (Int.ofNat j))]
inductive Qy (d:Nat) (nm:Txt):Fr->Prop
 |nil:Qy d nm (mQ d nm)
 |one (i:Nat):Qy d nm (mW d nm i)
section
variable (n:Nat)
theorem Jv (x:Wk c p o g k t N) (hn:nm∈V7) (hj:j < 6):a8 pg (b9 pg (n+79)) (mW d nm j) qB (H p o g k t)=.ok (.next,mW d nm j) (H p o g k t):=by
 have h9:nm∈N6:=OQ _ hn
 obtain⟨s,hs⟩:=yp (eV o g N nm) (d:=j) (Pw _) (Nat.lt_succ_of_lt hj)
 obtain⟨D,hD⟩:=wH (s:=pP s) (yQ (s:=s) x h9 (Hh h9))
 have h1:=kn (n+10) x hj h9 hs
 rw[Fp hn]at h1
 have h2:=cE (n+12) x hj h9 hs
 have he:G7 (b9 pg (n+77)) (mW d nm j) [(.OK 41),(.sub (.sub (.OK 15) (.OK 118)) (.lit (V.str [111,98,106,101,99,116]))),(.OK 14)] (H p o g k t)=.ok [.loc 1,.int (ob j),.str nm] (H p o g k t):=M1 (β:=R (List V)) (f:=λj=>G7 (b9 pg (n+77)) (mW d nm j) [(.OK 41),(.sub (.sub (.OK 15) (.OK 118)) (.lit (V.str [111,98,106,101,99,116]))),(.OK 14)] (H p o g k t)) (h:=λj=>.ok [.loc 1,.int (ob j),.str nm] (H p o g k t)) (by rfl') hj
 have ht:(b9 pg (n+79)).tr (mW d nm j) (.cmp (.call (.OK 105) [(.OK 41),(.sub (.sub (.OK 15) (.OK 118)) (.lit (V.str [111,98,106,101,99,116]))),(.OK 14)]) [(.ne,(.call (.OK 130) [(.OK 15),(.OK 118),(.OK 14)]))]) (H p o g k t)=.ok false (H p o g k t):=iL (n:=n+78) (j0 (n:=n+77) (k:=43) rfl he h1) (dT (j0 (n:=n+77) (k:=52) (vs:=[.loc 8,.int (Int.ofNat j),.str nm]) rfl rfl h2) hD)
 exact(c6 (N5 (n:=n+78) ht rfl)).trans g5
theorem Gu (x:Wk c p o g k t N) (hn:nm∈V7) {l:List Nat}:∀{m:Fr},(∀j∈l,j < 6)->Qy d nm m->∃m',Qy d nm m'∧Q4 (b9 pg (n+80)) [118] qB (l.map λj=>.int (Int.ofNat j)) m (H p o g k t)=.ok (.next,m') (H p o g k t):=by
 induction l with
 |nil=>exact λ{m} J h=>⟨m,h,rfl⟩
 |cons j l ih=>
  intro m hl hm
  obtain⟨m',hm',e⟩:=ih (m:=mW d nm j) (λq hq=>hl q (.tail _ hq)) (.one j)
  have hp:putN m 118 (.int (Int.ofNat j))=mW d nm j:=by induction hm<;>rfl
  exact⟨m',hm',O7 (by rw[hp];exact Jv n x hn (hl j (.head _))) e⟩
theorem CG {l:List Nat}:∃x,dat 8 (.g6 (dR l))=some x:=gQ λv hv=>match List.mem_map.mp hv with|⟨_,_,e⟩=>e▸⟨_,rfl⟩
theorem BS (x:Wk c p o g k t N) (hd:d < 6) (hn:nm∈NM):(b9 pg (n+82)).run 55 [.loc 1,.loc 8,.int (Int.ofNat d),.str nm] (H p o g k t)=.ok (.bool true) (H p o g k t):=by
 have Y1:∀{m:Fr},a8 pg (b9 pg (n+80)) (mQ d nm) (m6.body.drop 2) (H p o g k t)=.ok (.ret (.bool true),m) (H p o g k t)->(b9 pg (n+82)).run 55 [.loc 1,.loc 8,.int (Int.ofNat d),.str nm] (H p o g k t)=.ok (.bool true) (H p o g k t):=λe=>
  t8 (n:=n+81) (fd:=m6) (m:=[(41,.loc 1),(15,.loc 8),(21,.int (Int.ofNat d)),(14,.str nm)]) rfl rfl ((z4 1 (Mt n hd)).trans ((z4 (b:=m6.body.drop 1) 1 (Cz n x hd)).trans e))
 induction hb:B6 nm with
 |true=>exact Y1 (Jw n hn hb)
 |false=>
  have hk:=fP hn hb
  have h9:nm∈N6:=OQ _ hk
  have h1:=yH (d:=d) (Y:=H p o g k t) n hn
  rw[hb]at h1
  obtain⟨m,hm,e⟩:=Gu (d:=d) (l:=[0,1,2,3,4,5]) n x hk (by decide) .nil
  obtain⟨D,hD⟩:=CG (l:=tk (λd=>c3 (eV o g N nm d)) d)
  have h3:=bS (n+15) x hd h9
  rw[qz hd]at h3
  have h4:=gi (n+40) x h9 hd
  refine Y1 (m:=m) ((c6 (N5 (n:=n+79) h1 rfl)).trans ((c6 (s:=.F2 [118] .range [.call (.OK 26) [(.OK 15)]] qB) (jJ (vs:=[.int 6]) rfl rfl e)).trans (s9 (B2 rfl (show(b9 pg (n+80)).ev m (.cmp (.call (.OK 131) [(.OK 41),(.OK 28),(.OK 14)]) [(.eq,(.call (.OK 132) [(.OK 15),(.OK 21),(.OK 14)]))]) (H p o g k t)=_ from ?_) rfl))))
  induction hm with
  |nil=>exact pB (n:=n+79) (j0 (n:=n+78) (k:=46) (vs:=[.loc 1,.int (ob d),.str nm]) rfl rfl (bS (n+16) x hd h9 |>.trans (by rw[qz hd]))) (bu (j0 (n:=n+78) (k:=53) (vs:=[.loc 8,.int (Int.ofNat d),.str nm]) rfl rfl (gi (n+41) x h9 hd)) hD)
  |one i=>exact pB (n:=n+79) (j0 (n:=n+78) (k:=46) (vs:=[.loc 1,.int (ob d),.str nm]) rfl rfl (bS (n+16) x hd h9 |>.trans (by rw[qz hd]))) (bu (j0 (n:=n+78) (k:=53) (vs:=[.loc 8,.int (Int.ofNat d),.str nm]) rfl rfl (gi (n+41) x h9 hd)) hD)
end
variable {elt:X}
section
variable {f g:α->V}
theorem cF {l:List α} (h:∀a∈l,r.ev (putN m x (f a)) elt Y=.ok (g a) Y∧freeze (g a)=some (g a)):bA r m elt [x] none (l.map f) Y=.ok (l.map g) Y:=by
 induction l with
 |nil=>rfl
 |cons a l ih=>
  obtain⟨h1,h2⟩:=h a (.head _)
  have e:jT r m elt [x] none (f a) Y=.ok [g a] Y:=by
   refine v8 (a:=putN m x (f a)) (c7:=Y) rfl (v8 (a:=true) (c7:=Y) rfl ?_)
   show((r.ev (putN m x (f a)) elt Y).z6).bind _=_
   rw[h1]
   show(b8 76 (freeze (g a)) Y).bind _=_
   rw[h2];rfl
  exact v8 e (v8 (ih λb hb=>h b (.tail _ hb)) rfl)
end
noncomputable def qk:Txt:=[112,97,99,107,101,100]
noncomputable def vD:Txt:=[115,117,109,109,101,100]
noncomputable def ql:Txt:=[99,111,112,105,101,115]
noncomputable def ik:Txt:=[100,101,100,117,112]
noncomputable def VI (nm:Txt):List (V×Int):=NV.filterMap λq=>bif r5 q.1 nm then(iI q).map λi=>(q.2,i)else none
theorem mF {nm:Txt} {v:V} {i:Int} (A:Acc nm v i):(v,i)∈VI nm:=List.mem_filterMap.mpr ⟨(nm,v),A.mem,by
 show(bif r5 nm nm then(iI (nm,v)).map λi=>(v,i)else none)=_
 rw[G8,A.en];rfl⟩
theorem mB {α:Type} {nm:Txt} {f h:V->Int->α} (e:(VI nm).map (λq=>f q.1 q.2)=(VI nm).foldr (λq r=>h q.1 q.2::r) []) {v:V} {i:Int} (A:Acc nm v i):f v i=h v i:=by
 have q:=e8 (f:=λq:V×Int=>f q.1 q.2) (h:=λq=>h q.1 q.2) e (mF A)
 exact q
theorem Hq {v:V} {i:Int} (A:Acc ql v i):v=.int i:=mB (f:=λv i=>v) (h:=λv i=>.int i) (by rfl') A
theorem NF {v:V} {i:Int} (A:Acc ik v i):Am v (.str [111,110])=some (decide (i=1)):=mB (f:=λv i=>Am v (.str [111,110])) (h:=λv i=>some (decide (i=1))) (by rfl') A
section
variable {o i:X} {ys:List V} {c:Option X}
theorem yi (ho:(b9 P n).ev m o Y=.ok ov Y) (hi:(b9 P n).ev m i Y=.ok iv Y) (h:uY ov iv Y=some v):(b9 P (n+1)).ev m (.sub o i) Y=.ok v Y:=v8 ho (v8 hi (by show b8 95 (uY ov iv Y) Y=_;rw[h];rfl))
theorem uw (he:m7 (b9 P n) m it Y=.ok vs Y) (hl:gc .val vs=none) (hs:aI .val 1 vs=some items) (hz:Nat.ble items.length 1000=true) (hc:C7 m=m') (h:bA (b9 P n) m' elt [x] c items Y=.ok ys Y):(b9 P (n+1)).ev m (.comp false elt [x] .val it c) Y=.ok (.g6 ys) Y:=by
 show((m7 (b9 P n) m it Y).z6).bind _=_
 rw[he]
 show(px (b9 P n) m elt [x] c .val vs Y).bind _=_
 refine v8 (a:=ys) (c7:=Y) ?_ rfl
 show og (gc .val vs) _ ((b8 101 (aI .val 1 vs) Y).bind λitems Y=>bif Nat.ble items.length 1000 then bA (b9 P n) (C7 m) elt [x] c items Y else .no 103)=_
 rw[hl,hs]
 show(bif Nat.ble items.length 1000 then bA (b9 P n) (C7 m) elt [x] c items Y else .no 103)=_
 rw[hz,hc]
 exact h
theorem EG {fd:Fd} {b:List S} {k:Nat} {r:R V} (h1:P.fns[k]? =some fd) (h2:U6 fd vs=some m) (h3:a8 P (b9 P n) m fd.body Y=a8 P (b9 P n) m' b Y) (h:((a8 P (b9 P n) m' b Y).bind λp Y=>.ok (IX p.1) Y)=r):(b9 P (n+2)).run k vs Y=r:=by
 show(b8 80 (P.fns[k]?) Y).bind _=_
 rw[h1]
 show(b8 81 (U6 fd vs) Y).bind _=_
 rw[h2]
 show((a8 P (b9 P n) m fd.body Y).bind _)=_
 rw[h3]
 exact h
end
noncomputable def OD:List (Txt×Nat):=[(qk,0),(vD,113),(ql,22),(ik,91)]
noncomputable def V4:List Txt:=[qk,vD,ql,ik]
theorem sR {nm:Txt} (h:nm∈V4):nm∈V7:=lk (List.all_eq_true.mp (show(V4.all λa=>V7.any (r5 a))=true by rfl') nm h)
theorem EO {nm:Txt} (h:nm∈V4):(nm,ip nm)∈NV:=match List.mem_map.mp (show nm∈OD.map Prod.fst from h)with
 |⟨q,hq,e⟩=>Pm (i:=q.2) (e▸e8 (β:=Option (Txt×V)) (f:=λq:Txt×Nat=>NV[q.2]?) (h:=λq=>some (q.1,ip q.1)) (by rfl') hq)
theorem Hi {nm:Txt} (h:nm∈V4):∃i,Acc nm (ip nm) i:=(fN (EO h)).elim id λr=>by
 have h1:=yW 0 [] (EO h)
 rw[show iI (nm,ip nm)=some ((iI (nm,ip nm)).getD 0)from e8 (f:=λnm=>iI (nm,ip nm)) (h:=λnm=>some ((iI (nm,ip nm)).getD 0)) (by rfl') h]at h1
 exact nomatch h1.symm.trans (r.num 0 [])
variable {Z:Txt->V} {I:Txt->Int}
section
variable {S:Txt->Nat} (n:Nat)
theorem Gz (x:Wk c p o g k t N) (hs:Sr (eV o g N nm) d s) (h:nm∈V4):∃i,Acc nm (pV o g N (ip nm) nm s) i:=by
 unfold pV
 rcases Nat.lt_or_ge s 6 with h6|h6
 ·have hp:=S8 x h6 (OQ _ (sR h))
  obtain⟨v,e⟩:=(fi hs).2 h6
  rw[show Nat.blt s 6=true from Pe h6,e]
  rw[e]at hp
  generalize eN p nm s=a at hp
  cases hp with
  |some i v A=>exact⟨i,A⟩
 ·rw[show s=6 from Nat.le_antisymm (Nat.le_of_lt_succ (fi hs).1) h6]
  exact Hi h
structure Br (H:Hp) (pl:Nat) (Z:Txt->V) (I:Txt->Int):Prop where
 a:∀x,x∈V4->Acc x (Z x) (I x)
 p:∀x,x∈V4->∀n,∃s,(b9 pg (n+67)).run 43 [.loc 1,.int (ob pl),.str x] H=.ok (.tup [Z x,.str s]) H
 c:∀x,x∈V4->∀n,∃s,(b9 pg (n+65)).run 52 [.loc 8,.int (Int.ofNat pl),.str x] H=.ok (.tup [Z x,.str s]) H
theorem four (x:Wk c p o g k t N) (hd:pl < 6) (hS:∀x,Sr (eV o g N x) pl (S x)):∃Z I,Br (H p o g k t) pl Z I:=
 ⟨λnm=>pV o g N (ip nm) nm (S nm),λnm=>(iI (nm,pV o g N (ip nm) nm (S nm))).getD 0,λnm h=>(Gz x (hS nm) h).elim λi A=>by
  show Acc nm _ ((iI (nm,pV o g N (ip nm) nm (S nm))).getD 0)
  rw[A.en];exact A,
  λnm h n=>⟨_,by rw[←Fp (sR h)];exact kn n x hd (OQ _ (sR h)) (hS nm)⟩,
  λnm h n=>⟨_,cE n x hd (OQ _ (sR h)) (hS nm)⟩⟩
noncomputable def mR (pl:Nat):Fr:=[(41,.loc 1),(21,.int (ob pl))]
noncomputable def rX:X:=.call (.OK 89) [(.OK 14),(.sub (.call (.OK 105) [(.OK 41),(.OK 21),(.OK 14)]) (.lit (V.int 0)))]
theorem Jt (f:Br Y pl Z I) (h:nm∈V4):(b9 pg (n+80)).ev (putN (mR pl) 14 (.str nm)) rX Y=.ok (.int (I nm)) Y:=match f.p nm h (n+10)with
 |⟨s,e⟩=>j0 (n:=n+79) (k:=31) (vs:=[.str nm,Z nm]) rfl (i5 (I2 (n:=n+78) (v:=.str nm) (w:=.str nm) rfl rfl) rfl (i5 (yi (n:=n+78) (j0 (n:=n+77) (k:=43) (vs:=[.loc 1,.int (ob pl),.str nm]) rfl rfl e) rfl rfl) (bj (f.a nm h).q) rfl)) ((f.a nm h).num (n+19) Y)
noncomputable def Y1 (r:R (Fl×Fr)):R V:=r.bind λp Y=>.ok (IX p.1) Y
theorem yB (f:Br Y pl Z I):(b9 pg (n+83)).run 47 [.loc 1,.int (ob pl)] Y=.ok (.obj 2 [(61,.int (I qk)),(62,.int (bif decide (I ik=1)then 3 else I vD)),(63,.int (I ql)),(64,.int (I ik))]) Y:=by
 have h1:(b9 pg (n+81)).ev (mR pl) (.comp false rX [14] .val [(.tuple [(.lit (V.str [112,97,99,107,101,100])),(.lit (V.str [115,117,109,109,101,100])),(.lit (V.str [99,111,112,105,101,115])),(.lit (V.str [100,101,100,117,112]))])] none) Y=.ok (.g6 (V4.map λx=>.int (I x))) Y:=
  uw (n:=n+80) (vs:=[.tup (V4.map .str)]) (items:=V4.map .str) rfl rfl rfl rfl rfl (cF λx hx=>⟨Jt n f hx,rfl⟩)
 refine EG (n:=n+81) (fd:=ao) (m:=mR pl) (m':=[(41,.loc 1),(21,.int (ob pl)),(23,.g6 (V4.map λx=>.int (I x)))]) rfl rfl (c6 (m3 h1 rfl)) ?_
 have q:=mB (nm:=ik) (f:=λv i=>Y1 (a8 pg (b9 pg (n+81)) [(41,.loc 1),(21,.int (ob pl)),(23,.g6 [.int (I qk),.int (I vD),.int (I ql),.int i])] (ao.body.drop 1) Y)) (h:=λv i=>.ok (.obj 2 [(61,.int (I qk)),(62,.int (bif decide (i=1)then 3 else I vD)),(63,.int (I ql)),(64,.int i)]) Y) (by rfl') (f.a ik (by decide))
 exact q
noncomputable def NI (pl:Nat) (a b c d:V):Fr:=[(15,.loc 8),(21,.int (Int.ofNat pl)),(133,.lst [a,b,c,d])]
theorem CZ (j:Int):(B8 (VI qk) (B8 (VI vD) (VI ik))).map (λq=>Y1 (a8 pg (b9 pg (n+81)) (NI pl q.1.1 q.2.1.1 (.int j) q.2.2.1) (U1.body.drop 1) Y))=(B8 (VI qk) (B8 (VI vD) (VI ik))).foldr (λq r=>.ok (.g6 [.int q.1.2,.int (bif decide (q.2.2.2=1)then 3 else q.2.1.2),.int j,.int q.2.2.2]) Y::r) []:=by rfl'
noncomputable def lX:X:=.sub (.call (.OK 130) [(.OK 15),(.OK 21),(.OK 14)]) (.lit (V.int 0))
theorem vJ (f:Br Y pl Z I):(b9 pg (n+83)).run 56 [.loc 8,.int (Int.ofNat pl)] Y=.ok (.g6 [.int (I qk),.int (bif decide (I ik=1)then 3 else I vD),.int (I ql),.int (I ik)]) Y:=by
 have h1:(b9 pg (n+81)).ev [(15,.loc 8),(21,.int (Int.ofNat pl))] (.comp false lX [14] .val [(.tuple [(.lit (V.str [112,97,99,107,101,100])),(.lit (V.str [115,117,109,109,101,100])),(.lit (V.str [99,111,112,105,101,115])),(.lit (V.str [100,101,100,117,112]))])] none) Y=.ok (.g6 (V4.map Z)) Y:=
  uw (n:=n+80) (vs:=[.tup (V4.map .str)]) (items:=V4.map .str) rfl rfl rfl rfl rfl (cF λx hx=>⟨match f.c x hx (n+13)with
   |⟨s,e⟩=>yi (n:=n+79) (j0 (n:=n+78) (k:=52) (vs:=[.loc 8,.int (Int.ofNat pl),.str x]) rfl rfl e) rfl rfl,bj (f.a x hx).q⟩)
 refine EG (n:=n+81) (fd:=U1) (m:=[(15,.loc 8),(21,.int (Int.ofNat pl))]) (m':=NI pl (Z qk) (Z vD) (Z ql) (Z ik)) rfl rfl (c6 (m3 h1 rfl)) ?_
 rw[Hq (f.a ql (by decide))]
 have q:=e8 (CZ (pl:=pl) (Y:=Y) n (I ql)) (fY (mF (f.a qk (by decide))) (fY (mF (f.a vD (by decide))) (mF (f.a ik (by decide)))))
 exact q
end
noncomputable def iy:Txt:=[97,58,98]
noncomputable def K8:List Txt:=[[99,111,112,105,101,115],[100,101,100,117,112],[112,97,99,107,101,100],[114,101,97,100,111,110,108,121],[114,101,99,111,114,100],tR,[115,117,109,109,101,100],tQ]
noncomputable def KN:List Txt:=iy::K8
noncomputable def mk (b:Bool) (u:Txt->V):List (Txt×V):=(bif b then K8++[iy]else K8).map λx=>(x,u x)
noncomputable def T7 (w:Txt->V) (l:List (Txt×Bool)):List V:=l.flatMap λq=>bif q.2 then[.tup [.str q.1,w q.1]]else[]
noncomputable def P7 (w:Txt->V) (l:List (Txt×Bool)):List (Txt×V):=l.flatMap λq=>bif q.2 then[(q.1,w q.1)]else[]
theorem Jh {a:Txt->Option V} {l:List Txt}:l.flatMap (tv a)=T7 (λx=>(a x).getD .none) (l.zip (l.map λx=>c3 (a x))):=by
 induction l with
 |nil=>rfl
 |cons x l ih=>
  show tv a x++l.flatMap (tv a)=(bif c3 (a x)then[.tup [.str x,(a x).getD .none]]else[])++T7 (λx=>(a x).getD .none) (l.zip (l.map λx=>c3 (a x)))
  rw[ih]
  unfold tv
  induction a x<;>rfl
section
variable {u w:Txt->V}
theorem KL:(qh 7).map (λm=>I5 pg .dict [.g6 (T7 w (V7.zip m))] Y)=(qh 7).foldr (λm r=>some (.E2 (P7 w (V7.zip m)))::r) []:=by rfl'
noncomputable def BB:List Bool:=[true,false]
theorem Kh {b:Bool}:b∈BB:=by induction b;exact .tail _ (.head _);exact .head _
theorem Me:(B8 (qh 7) BB).map (λq=>(Nat.ble ((mk q.2 u).length+(P7 w (V7.zip q.1)).length) 1000,z7 (mk q.2 u) (P7 w (V7.zip q.1))))=(B8 (qh 7) BB).foldr (λq r=>(true,mk (q.2 || q.1.headD false) λx=>(bc (P7 w (V7.zip q.1)) x).getD (u x))::r) []:=by rfl'
end
section
variable {b:List S} {z:R (Fl×Fr)} {w:V} {old kvs:List (Txt×V)}
theorem ud (he:m7 r m it Y=.ok vs Y) (hl:gc .val vs=none) (hs:aI .val 1 vs=some items) (h:Q4 r [x] b items m Y=z):g8 P r m (.F2 [x] .val it b) Y=z:=by
 show((m7 r m it Y).z6).bind _=_
 rw[he]
 show og (gc .val vs) _ ((b8 142 (aI .val 1 vs) Y).bind λitems Y=>Q4 r [x] b items m Y)=_
 rw[hl,hs]
 exact h
theorem CQ (h:d6 m x=some (.E2 old)) (he:r.ev m e Y=.ok v Y) (hf:freeze v=some w) (hn:ents w=some kvs) (hb:Nat.ble (old.length+kvs.length) 1000=true):g8 P r m (.J0 x e) Y=.ok (.next,putN m x (.E2 (z7 old kvs))) Y:=by
 show(b8 148 ((d6 m x).bind sE) Y).bind _=_
 rw[h]
 refine v8 (a:=old) (c7:=Y) rfl (v8 he ?_)
 show(b8 148 (freeze v) Y).bind _=_
 rw[hf]
 show(b8 148 (ents w) Y).bind _=_
 rw[hn]
 show(bif Nat.ble (old.length+kvs.length) 1000 then _ else _)=_
 rw[hb];rfl
end
noncomputable def iu (d:Nat) (b:Bool) (u:Txt->V) (y:Fr):Fr:=[(41,.loc 1),(21,.int (rg d)),(94,.E2 (mk b u))]++y
inductive Ny:Fr->Prop
 |nil:Ny []
 |one (s:Txt):Ny [(95,.str s)]
noncomputable def nT:X:=.cmp (.OK 21) [(.ne,(.lit (V.int 0)))]
noncomputable def nU:S:=.J0 94 (.call (.OK 104) [(.call (.OK 98) [(.OK 41),(.OK 21),(.OK 95)])])
noncomputable def nB:S:=.assign (.OK 21) (.attr (.call (.OK 55) [(.OK 41),(.OK 21)]) 29)
noncomputable def nW:List S:=[.F2 [95] .val [(.tuple [(.lit (V.str [])),(.OK 93)])] [nU],nB]
noncomputable def u0 (x:Txt):V:=match(b9 pg 60).run 28 [] []with
 |.ok v _=>(((sE v).getD []).lookup x).getD .none
 |_=>.none
section
variable {u:Txt->V} (n:Nat)
theorem JH (hd:d < 6) (hy:Ny y) (hr:(b9 pg (n+70)).run 39 [.loc 1,.int (ob d),.str sg] Y=.ok (.g6 (V7.flatMap (tv a))) Y):∃u',(b9 pg (n+73)).Y9 (putN (iu d b u y) 95 (.str sg)) [nU] Y=.ok (.next,iu d (b || c3 (a iy)) u' [(95,.str sg)]) Y:=by
 have hm:(V7.map λx=>c3 (a x))∈qh 7:=tU
 have h1:=e8 (KL (w:=λx=>(a x).getD .none) (Y:=Y)) hm
 have h2:=e8 (Me (u:=u) (w:=λx=>(a x).getD .none)) (fY hm (Kh (b:=b)))
 rw[Jh]at hr
 have e:putN (iu d b u y) 95 (.str sg)=iu d b u [(95,.str sg)]:=by induction hy<;>rfl
 rw[e]
 have h3:g8 pg (b9 pg (n+72)) (iu d b u [(95,.str sg)]) nU Y=.ok (.next,putN (iu d b u [(95,.str sg)]) 94 (.E2 (z7 (mk b u) (P7 (λx=>(a x).getD .none) (V7.zip (V7.map λx=>c3 (a x))))))) Y:=CQ rfl (Lf (n:=n+71) (b:=.dict) rfl (v8 (j0 (n:=n+70) (k:=39) (vs:=[.loc 1,.int (ob d),.str sg]) rfl (by rw[←cj hd];rfl) hr) rfl) h1) rfl rfl (OY Prod.fst h2)
 rw[show z7 (mk b u) (P7 (λx=>(a x).getD .none) (V7.zip (V7.map λx=>c3 (a x))))=_ from OY Prod.snd h2]at h3
 exact⟨_,(c6 h3).trans g5⟩
theorem GU (hd:d < 6):a8 pg (b9 pg (n+73)) (iu d b u [(95,.str sg)]) [nB] (H p o g k t)=.ok (.next,iu (up d) b u [(95,.str sg)]) (H p o g k t):=M1 (β:=R (Fl×Fr)) (f:=λd=>a8 pg (b9 pg (n+73)) (iu d b u [(95,.str sg)]) [nB] (H p o g k t)) (h:=λd=>.ok (.next,iu (up d) b u [(95,.str sg)]) (H p o g k t)) (by rfl') hd
theorem GR (x:Wk c p o g k t N) (hd:d < 6) (hy:Ny y):∃u',(b9 pg (n+74)).Y9 (iu d b u y) nW (H p o g k t)=.ok (.next,iu (up d) (b || c3 (fo (o d) iy)|| c3 (fo (g d) iy)) u' [(95,.str u4)]) (H p o g k t):=by
 obtain⟨u1,e1⟩:=JH (b:=b) (u:=u) n hd hy (fK (n+2) x hd)
 obtain⟨u2,e2⟩:=JH (b:=b || c3 (fo (o d) iy)) (u:=u1) n hd (.one []) (gC (n+2) x hd)
 exact⟨u2,(c6 (P:=pg) (r:=b9 pg (n+73)) (ud (vs:=[.tup [.str [],.str u4]]) (items:=[.str [],.str u4]) (by induction hy<;>rfl) rfl rfl (O7 e1 (O7 e2 rfl)))).trans (GU n hd)⟩
theorem zg (hd:d < 7) (hy:Ny y):(b9 pg (n+74)).tr (iu d b u y) nT Y=.ok (Nat.blt d 6) Y:=by
 have hd:=Py hd
 induction hy with
 |nil=>exact e8 (β:=R Bool) (f:=λd=>(b9 pg (n+74)).tr (iu d b u []) nT Y) (h:=λd=>.ok (Nat.blt d 6) Y) (by rfl') hd
 |one s=>exact e8 (β:=R Bool) (f:=λd=>(b9 pg (n+74)).tr (iu d b u [(95,.str s)]) nT Y) (h:=λd=>.ok (Nat.blt d 6) Y) (by rfl') hd
theorem Gb {e:Nat->Option V} (h:Sr e 6 s):s=6:=by
 cases h with
 |top=>rfl
 |here q _=>exact absurd q (by decide)
 |up q _ _=>exact absurd q (by decide)
theorem GS (x:Wk c p o g k t N):∀{d b u y},ht d≤j->d < 7->Ny y->∃b' u' y',Ny y'∧(b'=false->b=false∧∀s,Sr (eV o g N iy) d s->s=6)∧G3 (b9 pg (n+74)) nT nW (j+1) (iu d b u y) (H p o g k t)=.ok (.next,iu 6 b' u' y') (H p o g k t):=by
 have top:∀{d b u y} {j:Nat},¬d < 6->d < 7->Ny y->∃b' u' y',Ny y'∧(b'=false->b=false∧∀s,Sr (eV o g N iy) d s->s=6)∧G3 (b9 pg (n+74)) nT nW (j+1) (iu d b u y) (H p o g k t)=.ok (.next,iu 6 b' u' y') (H p o g k t):=λ{d b u y j} h6 hd hy=>by
  have e:d=6:=Nat.le_antisymm (Nat.le_of_lt_succ hd) (Pr h6)
  subst e
  exact⟨b,u,y,hy,λq=>⟨q,λs=>Gb⟩,H3 (zg n hd hy)⟩
 induction j with
 |zero=>exact λ{d b u y} hj hd hy=>top (λh6=>by rw[df h6]at hj;exact absurd hj (Nat.not_succ_le_zero _)) hd hy
 |succ j ih=>
  intro d b u y hj hd hy
  rcases Nat.lt_or_ge d 6 with h6|h6
  ·obtain⟨u1,e1⟩:=GR (b:=b) (u:=u) n x h6 hy
   rw[df h6]at hj
   obtain⟨b',u',y',hy',hb,e⟩:=ih (u:=u1) (b:=b || c3 (fo (o d) iy)|| c3 (fo (g d) iy)) (Nat.le_of_succ_le_succ hj) (eU h6) (.one u4)
   refine⟨b',u',y',hy',λq=>?_,V3 ((zg n hd hy).trans (by rw[show Nat.blt d 6=true from Pe h6])) e1 e⟩
   have hq:=hb q
   have ee:eV o g N iy d=none->∀s,Sr (eV o g N iy) d s->s=6:=λe s hs=>by
    cases hs with
    |top=>rfl
    |here _ z=>exact nomatch e.symm.trans z
    |up _ _ hs=>exact hq.2 s hs
   have hz:=hq.1
   unfold eV ai at ee
   cases e1:b with
   |true=>rw[e1]at hz;exact nomatch hz
   |false=>
    cases e2:fo (o d) iy with
    |some v=>rw[e1,e2]at hz;exact nomatch hz
    |none=>
     cases e3:fo (g d) iy with
     |some v=>rw[e1,e2,e3]at hz;exact nomatch hz
     |none=>
      rw[e2,e3]at ee
      exact⟨rfl,ee (by induction z3 (N d) iy<;>rfl)⟩
  ·exact top (Nat.not_lt_of_le h6) hd hy
theorem zB (n:Nat):(b9 pg (n+60)).run 28 [] Y=.ok (.E2 (mk false u0)) Y:=by rfl'
theorem ki:I5 pg .sorted [.Z9 (mk b u)] Y=some (.g6 ((bif b then KN else K8).map .str)):=by
 induction b with
 |true=>rfl'
 |false=>rfl'
theorem kK (x:Wk c p o g k t N) (hd:d < 6):∃b,(b=false->∀s,Sr (eV o g N iy) d s->s=6)∧(b9 pg (n+76)).run 44 [.loc 1,.int (ob d)] (H p o g k t)=.ok (.g6 ((bif b then KN else K8).map .str)) (H p o g k t):=by
 obtain⟨b,u,y,hy,hb,e⟩:=GS (j:=19) (b:=false) (u:=u0) n x (zV hd) (Nat.lt_succ_of_lt hd) .nil
 refine⟨b,λq=>(hb q).2,t8 (n:=n+75) (fd:=di) (m:=[(41,.loc 1),(21,.int (rg d))]) (p:=(.ret (.g6 ((bif b then KN else K8).map .str)),iu 6 b u y)) rfl (by rw[cj hd];rfl) ?_⟩
 have h0:g8 pg (b9 pg (n+74)) [(41,.loc 1),(21,.int (rg d))] (.assign (.B4 94) (.call (.OK 78) [])) (H p o g k t)=.ok (.next,iu d false u0 []) (H p o g k t):=m3 (j0 (n:=n+73) (k:=28) (vs:=[]) rfl rfl (zB (n+13))) rfl
 exact(c6 h0).trans ((c6 (s:=.y6 nT nW) e).trans (s9 (B2 rfl (Lf (n:=n+73) (b:=.sorted) (e:=.OK 18) (es:=[.OK 94]) (c7:=H p o g k t) (vs:=[.Z9 (mk b u)]) (by induction hy<;>rfl) (by induction hy<;>rfl) ki) rfl)))
end
noncomputable def nP (Z:Txt->V) (S:Txt->Txt) (x:Txt):V:=.tup [.str x,Z x,.str (S x)]
noncomputable def gr (v:V):Bool:=!(F8 v).isSome
noncomputable def tu (Z:Txt->V) (S:Txt->Txt) (x:Txt):List V:=bif gr (Z x)then[nP Z S x]else[]
theorem tP {x:Txt} (h:x∈KN):x∈N6:=lk (List.all_eq_true.mp (show(KN.all λx=>N6.any (r5 x))=true by rfl') x h)
section
variable {cd:X} {y:Nat} {f:Txt->V} {q:Txt->Bool}
theorem wM {l:List Txt} (h:∀x∈l,r.tr (putN m y (f x)) cd Y=.ok (q x) Y∧r.ev (putN m y (f x)) elt Y=.ok (f x) Y∧freeze (f x)=some (f x)):bA r m elt [y] (some cd) (l.map f) Y=.ok (l.flatMap λx=>bif q x then[f x]else[]) Y:=by
 induction l with
 |nil=>rfl
 |cons x l ih=>
  obtain⟨h1,h2,h3⟩:=h x (.head _)
  have e:jT r m elt [y] (some cd) (f x) Y=.ok (bif q x then[f x]else[]) Y:=by
   refine v8 (a:=putN m y (f x)) (c7:=Y) rfl ?_
   show((r.tr (putN m y (f x)) cd Y).z6).bind _=_
   rw[h1]
   induction q x with
   |false=>rfl
   |true=>
    show((r.ev (putN m y (f x)) elt Y).z6).bind _=_
    rw[h2]
    show(b8 76 (freeze (f x)) Y).bind _=_
    rw[h3];rfl
  exact v8 e (v8 (ih λb hb=>h b (.tail _ hb)) rfl)
end
noncomputable def Mq:V:=.str [104,105,100,100,101,110]
noncomputable def Mp:V:=.str [115,116,97,110,100,97,114,100]
noncomputable def xy (x:Txt):Option V:=bc [(tR,Mq),(tQ,Mp)] x
theorem HW {x:Txt} (h:x∈N6):(xy x).getD (ip x)=um x:=e8 (β:=V) (a:=x) (f:=λx=>(xy x).getD (ip x)) (h:=um) (by rfl') h
theorem yT {x:Txt} (h:x∈V7):xy x=none:=e8 (β:=Option V) (a:=x) (f:=xy) (h:=λJ=>none) (by rfl') h
theorem Mw:[tR,tQ].map (λx=>V7.any (r5 x))=[false,false]:=by rfl'
noncomputable def eB:List S:=match M7.body with
 |_::.F2 _ _ _ b::_=>b
 |_=>[]
noncomputable def By (pl:Nat) (acc:List V) (y:Fr):Fr:=[(15,.loc 8),(21,.int (Int.ofNat pl)),(94,.g6 acc)]++y
inductive Ey:Fr->Prop
 |nil:Ey []
 |four (a b c d:V):Ey [(14,a),(81,b),(100,c),(134,d)]
section
variable {x sx:Txt} {z':V} {S:Txt->Nat} {T:Txt->Txt} (n:Nat)
theorem GA (w:Wk c p o g k t N) (hx:x∈N6) (hs:Sr (eV o g N x) d s):(xy x).getD (pV o g N (ip x) x s)=pV o g N (um x) x s:=by
 unfold pV
 rcases Nat.lt_or_ge s 6 with h|h
 ·rw[show Nat.blt s 6=true from Pe h]
  refine(Px hx).elim (λh7=>by rw[yT h7];rfl) λh2=>?_
  obtain⟨v,e⟩:=(fi hs).2 h
  have hp:=S8 w h hx
  have no:¬x∈V7:=λh7=>by
   have e7:=yT h7
   exact(OW h2).elim (λq=>by rw[q]at e7;exact nomatch e7) λq=>by rw[OX q]at e7;exact nomatch e7
  rw[e]at hp
  generalize eN p x s=a at hp
  cases hp with
  |some i v A=>exact absurd A.key no
 ·rw[show s=6 from Nat.le_antisymm (Nat.le_of_lt_succ (fi hs).1) h]
  exact HW hx
noncomputable def Dw:X:=.l5 (.dict [((.lit (V.str [115,110,97,112,100,105,114])),(.lit (V.str [104,105,100,100,101,110]))),((.lit (V.str [115,121,110,99])),(.lit (V.str [115,116,97,110,100,97,114,100])))]) 1 [(.OK 14),(.OK 81)]
noncomputable def eE (pl:Nat) (acc:List V) (x:Txt) (z:V) (sx:Txt) (y:Fr):Fr:=By pl acc ([(14,.str x),(81,z),(100,.str sx)]++y)
theorem KG (n:Nat) {y:Fr} (h:mV z=true):(b9 pg (n+75)).ev (eE pl acc x z sx y) Dw Y=.ok ((xy x).getD z) Y:=ak (G:=λz=>(b9 pg (n+75)).ev (eE pl acc x z sx y) Dw Y=.ok ((xy x).getD z) Y) h rfl (λJ=>rfl) λJ=>rfl
theorem Mf {P:Pg} {r:Ev} {m:Fr} {e:X} {a b:V} {i j:Nat} (he:r.ev m e Y=.ok (.tup [a,b]) Y) (ha:freeze a=some a) (hb:freeze b=some b):g8 P r m (.H4 [.OK i,.OK j] e) Y=.ok (.next,putN (putN m i a) j b) Y:=by
 refine v8 he (v8 (a:=[a,b]) (c7:=Y) rfl (v8 (a:=()) (c7:=Y) rfl ?_))
 refine v8 (c7:=Y) (v8 (D4 ha) (v8 (D4 hb) rfl)) rfl
theorem HQ (hy:Ey y) (hz:mV z=true) (hz':mV z'=true) (ho:(xy x).getD z=z') (hl:acc.length≤1000) (h52:(b9 pg (n+78)).run 52 [.loc 8,.int (Int.ofNat pl),.str x] Y=.ok (.tup [z,.str sx]) Y):
 a8 pg (b9 pg (n+79)) (putN (By pl acc y) 14 (.str x)) eB Y=.ok (.next,eE pl (acc++bif gr z' then[.tup [.str x,z',.str sx]]else[]) x z sx [(134,z')]) Y:=by
 have h3:a8 pg (b9 pg (n+79)) (eE pl acc x z sx [(134,z')]) (eB.drop 2) Y=.ok (.next,eE pl (acc++bif gr z' then[.tup [.str x,z',.str sx]]else[]) x z sx [(134,z')]) Y:=by
  have go:∀{w:V},(b9 pg (n+79)).tr (eE pl acc x z sx [(134,w)]) (.cmp (.OK 134) [(.M6,(.lit V.none))]) Y=.ok true Y->(b9 pg (n+78)).ev (eE pl acc x z sx [(134,w)]) (.tuple [(.OK 14),(.OK 134),(.OK 100)]) Y=.ok (.tup [.str x,w,.str sx]) Y->a8 pg (b9 pg (n+79)) (eE pl acc x z sx [(134,w)]) (eB.drop 2) Y=.ok (.next,eE pl (acc++[.tup [.str x,w,.str sx]]) x z sx [(134,w)]) Y:=λ{w} ht he=>
   (c6 (bh (n:=n+78) ht ((c6 (kU (xs:=acc) (w:=.tup [.str x,w,.str sx]) rfl he rfl hl)).trans g5))).trans g5
  have h0:a8 pg (b9 pg (n+79)) (eE pl acc x z sx [(134,.none)]) (eB.drop 2) Y=.ok (.next,eE pl acc x z sx [(134,.none)]) Y:=by rfl'
  exact ak (G:=λw=>a8 pg (b9 pg (n+79)) (eE pl acc x z sx [(134,w)]) (eB.drop 2) Y=.ok (.next,eE pl (acc++bif gr w then[.tup [.str x,w,.str sx]]else[]) x z sx [(134,w)]) Y) hz'
   (h0.trans (by rw[show(bif gr V.none then[V.tup [.str x,V.none,.str sx]]else[])=[]from rfl,Pl])) (λi=>go (by rfl') (by rfl')) λs=>go (by rfl') (by rfl')
 have h2:∀y',putN (eE pl acc x z sx y') 134 z'=eE pl acc x z sx [(134,z')]->a8 pg (b9 pg (n+79)) (eE pl acc x z sx y') (eB.drop 1) Y=.ok (.next,eE pl (acc++bif gr z' then[.tup [.str x,z',.str sx]]else[]) x z sx [(134,z')]) Y:=λy' e=>
  have hs:store pg (b9 pg (n+79)) (.OK 134) z' (eE pl acc x z sx y') Y=.ok (eE pl acc x z sx [(134,z')]) Y:=(D4 (lh hz')).trans (OY (λm:Fr=>R.ok m Y) e)
  have hg:(b9 pg (n+79)).ev (eE pl acc x z sx y') Dw Y=.ok z' Y:=ho▸KG (n+4) hz
  (c6 (s:=.assign (.OK 134) Dw) (m3 hg hs)).trans h3
 have h1:∀y,(b9 pg (n+78)).ev (putN (By pl acc y) 14 (.str x)) (.OK 130) Y=.ok (.fn 52) Y->G7 (b9 pg (n+78)) (putN (By pl acc y) 14 (.str x)) [(.OK 15),(.OK 21),(.OK 14)] Y=.ok [.loc 8,.int (Int.ofNat pl),.str x] Y->∀y',putN (putN (putN (By pl acc y) 14 (.str x)) 81 z) 100 (.str sx)=eE pl acc x z sx y'->putN (eE pl acc x z sx y') 134 z'=eE pl acc x z sx [(134,z')]->a8 pg (b9 pg (n+79)) (putN (By pl acc y) 14 (.str x)) eB Y=.ok (.next,eE pl (acc++bif gr z' then[.tup [.str x,z',.str sx]]else[]) x z sx [(134,z')]) Y:=λy a b y' e1 e2=>
  (c6 (s:=.H4 [(.OK 81),(.OK 100)] (.call (.OK 130) [(.OK 15),(.OK 21),(.OK 14)])) (Mf (j0 (n:=n+78) a b h52) (lh hz) rfl)).trans (by rw[e1];exact h2 y' e2)
 induction hy with
 |nil=>exact h1 [] rfl rfl [] rfl rfl
 |four a b c d=>exact h1 [(14,a),(81,b),(100,c),(134,d)] rfl rfl [(134,d)] rfl rfl
noncomputable def Zf (o g:Nat->O) (N:Nat->List Txt) (S:Txt->Nat) (x:Txt):V:=pV o g N (um x) x (S x)
noncomputable abbrev S3 (o g:Nat->O) (N:Nat->List Txt) (S:Txt->Nat) (x:Txt):List V:=tu (Zf o g N S) (λx=>pP (S x)) x
theorem HR (w:Wk c p o g k t N) (hp:pl < 6) (hS:∀x,Sr (eV o g N x) pl (S x)) {l:List Txt}:∀{acc:List V} {y:Fr},(∀x∈l,x∈N6)->acc.length+l.length≤1000->Ey y->∃y',Ey y'∧Q4 (b9 pg (n+80)) [14] eB (l.map .str) (By pl acc y) (H p o g k t)=.ok (.next,By pl (acc++l.flatMap (S3 o g N S)) y') (H p o g k t):=by
 induction l with
 |nil=>exact λ{acc y} J J hy=>⟨y,hy,by rw[List.flatMap_nil,Pl];rfl⟩
 |cons x l ih=>
  intro acc y hl hz hy
  have hx:=hl x (.head _)
  have e1:=HQ (x:=x) n hy (yQ w hx (Hh hx)) (yQ w hx (HX hx)) (GA w hx (hS x)) (OV (Nat.le_add_right _ _) hz) (cE (n+13) w hp hx (hS x))
  have hz2:(acc++S3 o g N S x).length+l.length≤1000:=by
   rw[List.length_append,Nat.add_assoc]
   refine OV (Pa ?_ _) hz
   rw[List.length_cons,Nat.add_comm]
   refine Pa ?_ _
   unfold S3 tu
   induction gr (Zf o g N S x)with
   |true=>exact Pw _
   |false=>exact Nat.zero_le _
  obtain⟨y2,hy2,e2⟩:=ih (λq hq=>hl q (.tail _ hq)) hz2 (.four _ _ _ _)
  refine⟨y2,hy2,O7 e1 (e2.trans ?_)⟩
  rw[List.append_assoc,List.flatMap_cons]
theorem Ak (w:Wk c p o g k t N) (hp:pl < 6) (hS:∀x,Sr (eV o g N x) pl (S x)):(b9 pg (n+82)).run 57 [.loc 8,.int (Int.ofNat pl)] (H p o g k t)=.ok (.g6 (KN.flatMap (S3 o g N S))) (H p o g k t):=by
 obtain⟨y,hy,e⟩:=HR (acc:=[]) (y:=[]) n w hp hS (l:=KN) (λx=>tP) (by decide) .nil
 refine t8 (n:=n+81) (fd:=M7) (m:=[(15,.loc 8),(21,.int (Int.ofNat pl))]) (p:=(.ret (.g6 (KN.flatMap (S3 o g N S))),By pl (KN.flatMap (S3 o g N S)) y)) rfl rfl ?_
 refine(z4 1 (show a8 pg (b9 pg (n+80)) [(15,.loc 8),(21,.int (Int.ofNat pl))] (M7.body.take 1) (H p o g k t)=.ok (.next,By pl [] []) (H p o g k t)from rfl)).trans ((c6 (P:=pg) (r:=b9 pg (n+80)) (ud (vs:=[.g6 (KN.map .str)]) rfl rfl rfl e)).trans (s9 ?_))
 induction hy<;>rfl
theorem xX (w:Wk c p o g k t N):∃x,dat 8 (.g6 (KN.flatMap (S3 o g N S)))=some x:=gQ λv hv=>match List.mem_flatMap.mp hv with
 |⟨nm,hn,hm⟩=>by
  have hN:mV (Zf o g N S nm)=true:=yQ w (tP hn) (HX (tP hn))
  unfold S3 tu nP at hm
  generalize Zf o g N S nm=z at hm hN
  cases e:gr z with
  |false=>rw[e]at hm;exact nomatch hm
  |true=>
   rw[e]at hm
   rw[OX hm]
   exact ak (G:=λz=>∃x,dat 7 (.tup [.str nm,z,.str (pP (S nm))])=some x) hN ⟨_,rfl⟩ (λJ=>⟨_,rfl⟩) λJ=>⟨_,rfl⟩
theorem pM {P:Pg} {m:Fr} {e i:X} {a b v:V} {q:IS} {n:Nat} (h:(b9 P n).ev m e Y=.ok a Y) (h2:(b9 P n).ev m i Y=.ok b Y) (hv:xh q a b=some v):(b9 P (n+1)).ev m (.bin q e i) Y=.ok v Y:=v8 h (v8 h2 (by show b8 91 (xh q a b) Y=_;rw[hv];rfl))
noncomputable def aX:X:=.bin .add (.tuple [(.OK 14)]) (.call (.OK 105) [(.OK 41),(.OK 21),(.OK 14)])
noncomputable def aC:X:=.cmp (.sub (.OK 34) (.lit (V.int 1))) [(.M6,(.lit V.none))]
theorem IE (w:Wk c p o g k t N) (hp:pl < 6) (hS:∀x,Sr (eV o g N x) pl (S x)):(b9 pg (n+82)).run 45 [.loc 1,.int (ob pl)] (H p o g k t)=.ok (.g6 (KN.flatMap (S3 o g N S))) (H p o g k t):=by
 obtain⟨b,hb,hn⟩:=kK (n+2) w hp
 have hin:∀x,x∈(bif b then KN else K8)->x∈N6:=λx hx=>tP (by
  induction b with
  |true=>exact hx
  |false=>exact .tail _ hx)
 have hR:(bif b then KN else K8).flatMap (S3 o g N S)=KN.flatMap (S3 o g N S):=by
  induction b with
  |true=>rfl
  |false=>
   have h0:Zf o g N S iy=.none:=by
    unfold Zf
    rw[hb rfl (S iy) (hS iy)]
    show um iy=_
    rfl'
   show _=S3 o g N S iy++K8.flatMap (S3 o g N S)
   unfold S3 tu
   rw[h0];rfl
 have hl:Nat.ble (bif b then KN else K8).length 1000=true:=by induction b<;>rfl
 rw[←hR]
 generalize (bif b then KN else K8)=L at hn hin hl
 have hm:∀{f:Txt->V},Nat.ble (L.map f).length 1000=true:=λ{f}=>by rw[OZ];exact hl
 have c1:(b9 pg (n+80)).ev (mR pl) (.comp false aX [14] .val [(.call (.OK 106) [(.OK 41),(.OK 21)])] none) (H p o g k t)=.ok (.g6 (L.map (nP (Zf o g N S) λx=>pP (S x)))) (H p o g k t):=
  uw (n:=n+79) (vs:=[.g6 (L.map .str)]) (items:=L.map .str) (v8 (j0 (n:=n+78) (k:=44) (vs:=[.loc 1,.int (ob pl)]) rfl rfl hn) rfl) rfl rfl hm rfl (cF λx hx=>⟨pM (n:=n+78) (a:=.tup [.str x]) (e:=.tuple [(.OK 14)]) rfl (j0 (n:=n+77) (k:=43) (vs:=[.loc 1,.int (ob pl),.str x]) rfl rfl (kn (n+10) w hp (hin x hx) (hS x))) rfl,rfl⟩)
 have c2:(b9 pg (n+80)).ev [(41,.loc 1),(21,.int (ob pl)),(15,.lst (L.map (nP (Zf o g N S) λx=>pP (S x))))] (.comp false (.OK 34) [34] .val [(.OK 15)] (some aC)) (H p o g k t)=.ok (.g6 (L.flatMap (S3 o g N S))) (H p o g k t):=
  uw (n:=n+79) (vs:=[.lst (L.map (nP (Zf o g N S) λx=>pP (S x)))]) (items:=L.map (nP (Zf o g N S) λx=>pP (S x))) rfl rfl rfl hm rfl (wM (q:=λx=>gr (Zf o g N S x)) λx hx=>⟨ak (G:=λz=>(b9 pg (n+79)).tr (putN [(41,.loc 1),(21,.int (ob pl)),(15,.lst (L.map (nP (Zf o g N S) λx=>pP (S x))))] 34 (.tup [.str x,z,.str (pP (S x))])) aC (H p o g k t)=.ok (gr z) (H p o g k t)) (yQ w (hin x hx) (HX (hin x hx)):mV (Zf o g N S x)=true) rfl (λJ=>rfl) λJ=>rfl,rfl,rfl⟩)
 exact t8 (n:=n+81) (fd:=dj) (m:=mR pl) (p:=(.ret (.g6 (L.flatMap (S3 o g N S))),[(41,.loc 1),(21,.int (ob pl)),(15,.lst (L.map (nP (Zf o g N S) λx=>pP (S x))))])) rfl rfl ((c6 (m3 c1 rfl)).trans (s9 (B2 rfl c2 rfl)))
end
section
variable {b:List S} {y:Nat} {z:R (Fl×Fr)} {u:V}
theorem jK (h:r.Y9 (putN (putN m x u) y v) b Y=.ok (.next,m') c7) (h2:Q4 r [x,y] b vs m' c7=z):Q4 r [x,y] b (.tup [u,v]::vs) m Y=z:=by
 show(b8 130 (some (putN (putN m x u) y v)) Y).bind _=_
 refine v8 (a:=putN (putN m x u) y v) (c7:=Y) rfl ?_
 show((r.Y9 (putN (putN m x u) y v) b Y).z6).bind _=_
 rw[h]
 exact h2
theorem EJ {P:Pg} {n k:Nat} {m:Fr} {Y:Hp} {v:V} (h:d6 m k=none) (h2:d6 P.glob k=some v):(b9 P (n+1)).ev m (.OK k) Y=.ok v Y:=by
 show og (d6 m k) _ (b8 90 (d6 P.glob k) Y)=_
 rw[h,h2];rfl
theorem Kb {P:Pg} {n:Nat} {m:Fr} {Y c7:Hp} {t e i:X} {r:R V} (ht:(b9 P n).tr m t Y=.ok true c7) (h:(b9 P n).ev m e c7=r):(b9 P (n+1)).ev m (.ite t e i) Y=r:=v8 ht h
theorem ML {P:Pg} {n:Nat} {m:Fr} {Y c7:Hp} {t e i:X} {r:R V} (ht:(b9 P n).tr m t Y=.ok false c7) (h:(b9 P n).ev m i c7=r):(b9 P (n+1)).ev m (.ite t e i) Y=r:=v8 ht h
theorem Nm {P:Pg} {n:Nat} {m:Fr} {Y:Hp} {t e:X} {a b:Bool} (h1:(b9 P n).tr m t Y=.ok a Y) (h2:(b9 P n).tr m e Y=.ok b Y):(b9 P (n+1)).tr m (.R5 [t,e]) Y=.ok (a&&b) Y:=by
 show((b9 P n).tr m t Y).bind _=_
 rw[h1]
 induction a with
 |false=>rfl
 |true=>
  show((b9 P n).tr m e Y).bind _=_
  rw[h2]
  induction b<;>rfl
theorem JC {P:Pg} {n:Nat} {m:Fr} {Y c7:Hp} {f:X} {es:List X} {b:Bool} (h:(b9 P n).ev m (.call f es) Y=.ok (.bool b) c7):(b9 P (n+2)).tr m (.not (.call f es)) Y=.ok (!b) c7:=v8 (x:=(b9 P (n+1)).tr m (.call f es) Y) (a:=b) (v8 h rfl) rfl
theorem Ag (he:m7 r m it Y=.ok vs Y) (hs:aI .enum 2 vs=some items) (h:Q4 r [x,y] b items m Y=z):g8 P r m (.F2 [x,y] .enum it b) Y=z:=by
 show((m7 r m it Y).z6).bind _=_
 rw[he]
 show(b8 142 (aI .enum 2 vs) Y).bind _=_
 rw[hs]
 exact h
end
section
theorem dU (x:Int) {n:Nat} (h:0 < n):∃j,j < n∧x % Int.ofNat n=Int.ofNat j:=
 have h0:=Int.emod_nonneg x (show Int.ofNat n≠0 from λe=>absurd (Int.ofNat.inj e) (Nat.pos_iff_ne_zero.mp h))
 have h1:=Int.emod_lt_of_pos x (Int.ofNat_lt.mpr h)
 match e:x % Int.ofNat n with
 |.ofNat j=>⟨j,Int.ofNat_lt.mp (show Int.ofNat j < Int.ofNat n from e▸h1),rfl⟩
 |.negSucc j=>absurd (e▸h0) (Int.not_le.mpr (Int.negSucc_lt_zero j))
theorem V8 {l:List V} (x:Int) (h:0 < l.length) (hl:l.length≤1000):∃v,v∈l∧uY (.lst l) (.int (x % Int.ofNat l.length)) Y=some v:=by
 obtain⟨j,hj,e⟩:=dU x h
 refine⟨l[j],List.getElem_mem hj,?_⟩
 rw[e]
 show((((gd (Nat.blt j l.length&&Nat.ble j 1000) j).bind λj=>l[j]?)).or none)=_
 rw[show Nat.blt j l.length=true from Pe hj,show Nat.ble j 1000=true from Pe (OV (Nat.le_of_lt hj) hl)]
 show(l[j]?).or none=_
 rw[Pb hj];rfl
end
noncomputable def lF (L:List V) (nm:Txt) (y:Fr):Fr:=[(135,.lst L),(41,.loc 1),(15,.loc 8),(14,.str nm),(29,.int 0),(138,.str [101]),(34,.loc 23),(56,.lst (fQ.map .str)),(140,.lst bO)]++y
noncomputable def lG (i x pl w:Int) (y:Fr):Fr:=[(141,.int i),(142,.int x),(21,.int pl),(120,.int w)]++y
inductive Gy:Fr->Prop
 |nil:Gy []
 |full (i x pl w:Int) (l:List V) (v:V):Gy (lG i x pl w [(143,.lst l),(81,v)])
inductive Hy:Fr->Prop
 |nil:Hy []
 |two (l:List V) (v:V):Hy [(143,.lst l),(81,v)]
inductive Jy:Fr->Prop
 |nil:Jy []
 |one (v:V):Jy [(81,v)]
inductive Gf (L:List V):Fr->Prop
 |mk (nm:Txt) (pl:Nat) (i x w:Int) (l:List V) (v:V) (hn:nm∈NM) (hp:pl < 6):Gf L (lF L nm (lG i x (Int.ofNat pl) w [(143,.lst l),(81,v)]))
noncomputable def uB:List S:=match I7.body.getD 7 .pass with
 |.F2 _ _ _ b=>b
 |_=>[]
noncomputable def vX:X:=match uB.getD 2 .pass with
 |.assign _ e=>e
 |_=>.lit .none
noncomputable def vT:X:=match vX with
 |.ite t _ _=>t
 |_=>.lit .none
variable {L:List V}
section
variable {nm':Txt} {x pl a:Int} {q:Txt×List V} (n:Nat)
theorem ME (hy:Gy y) (hs:uY (.lst (fQ.map .str)) (.int ((x / 36+i) % 9)) Y=some (.str nm')):∃y1,Hy y1∧g8 pg (b9 pg (n+90)) (putN (putN (lF L nm y) 141 (.int i)) 142 (.int x)) (uB.getD 0 .pass) Y=.ok (.next,lF L nm' (lG i x (x / 6 % 6) (x % 6) y1)) Y:=by
 have go:∀m,d6 m 142=some (.int x)->d6 m 141=some (.int i)->d6 m 56=some (.lst (fQ.map .str))->g8 pg (b9 pg (n+90)) m (uB.getD 0 .pass) Y=.ok (.next,putN (putN (putN m 14 (.str nm')) 21 (.int (x / 6 % 6))) 120 (.int (x % 6))) Y:=λm h1 h2 h3=>by
  have ex:∀n,(b9 pg (n+1)).ev m (.OK 142) Y=.ok (.int x) Y:=λn=>I2 h1 rfl
  have ed:∀(n:Nat) {k:Int} {r:Int},rF (.int x) (.int k) (λx y=>gd (decide (0 < y)&&decide (y < 1000000)) (.int (x / y)))=some (.int r)->(b9 pg (n+2)).ev m (.bin .fdiv (.OK 142) (.lit (.int k))) Y=.ok (.int r) Y:=λn {k r} h=>pM (ex n) rfl h
  refine v8 (v8 (pM (n:=n+89) (ex (n+88)) rfl rfl) (v8 (v8 (pM (n:=n+89) (ed (n+87) rfl) rfl rfl) (v8 (v8 (yi (n:=n+89) (I2 (n:=n+88) h3 rfl) (pM (n:=n+88) (pM (n:=n+87) (ed (n+85) rfl) (I2 (n:=n+86) h2 rfl) rfl) rfl rfl) hs) rfl) rfl)) rfl)) rfl
 induction hy with
 |nil=>exact⟨[],.nil,go _ rfl rfl rfl⟩
 |full a b c d l v=>exact⟨_,.two l v,go _ rfl rfl rfl⟩
theorem MD (hy:Hy y) (hq:q∈N9):∃y2,Jy y2∧g8 pg (b9 pg (n+90)) (lF L q.1 (lG i x pl w y)) (uB.getD 1 .pass) Y=.ok (.next,lF L q.1 (lG i x pl w ((143,.lst q.2)::y2))) Y:=by
 have h48:(b9 pg (n+89)).run 48 [.str q.1] Y=.ok (LU q.2) Y:=KY (n+29) Y hq
 have hf:freeze (LU q.2)=some (.lst q.2):=by induction q with|mk a b=>induction b<;>rfl
 have go:∀m,d6 m 14=some (.str q.1)->d6 m 115=none->g8 pg (b9 pg (n+90)) m (.assign (.OK 143) (.call (.OK 115) [(.OK 14)])) Y=.ok (.next,putN m 143 (.lst q.2)) Y:=λm h h2=>
  m3 (j0 (n:=n+89) (k:=48) (vs:=[.str q.1]) (EJ h2 rfl) (i5 (I2 (n:=n+88) h rfl) rfl rfl) h48) (D4 hf)
 induction hy with
 |nil=>exact⟨[],.nil,go _ rfl rfl⟩
 |two l v=>exact⟨[(81,v)],.one v,go _ rfl rfl⟩
theorem Hk (n:Nat) (hq:q∈N9) {y2:Fr}:(b9 pg (n+80)).tr (lF L nm (lG i x pl w ((143,.lst q.2)::y2))) vT Y=.ok (!q.2.isEmpty&&decide (x / 324 % 3 > 0)) Y:=by
 have h2:(b9 pg (n+79)).tr (lF L nm (lG i x pl w ((143,.lst q.2)::y2))) (.cmp (.bin .mod (.bin .fdiv (.OK 142) (.lit (V.int 324))) (.lit (V.int 3))) [(.gt,(.lit (V.int 0)))]) Y=.ok (decide (x / 324 % 3 > 0)) Y:=rfl
 have h1:(b9 pg (n+79)).tr (lF L nm (lG i x pl w ((143,.lst q.2)::y2))) (.cmp (.OK 143) [(.ne,(.list []))]) Y=.ok (!q.2.isEmpty) Y:=e8 (β:=R Bool) (a:=q) (f:=λq=>(b9 pg (n+79)).tr (lF L nm (lG i x pl w ((143,.lst q.2)::y2))) (.cmp (.OK 143) [(.ne,(.list []))]) Y) (h:=λq=>.ok (!q.2.isEmpty) Y) (by rfl') hq
 exact Nm h1 h2
theorem JW (n:Nat) (hq:q∈N9) {y2:Fr} (hy2:Jy y2):∃v,v∈q.2++bO∧(b9 pg (n+81)).ev (lF L nm (lG i x pl w ((143,.lst q.2)::y2))) vX Y=.ok v Y:=by
 have ht:=Hk (L:=L) (nm:=nm) (i:=i) (x:=x) (pl:=pl) (w:=w) (Y:=Y) (y2:=y2) n hq
 cases e:(!q.2.isEmpty&&decide (x / 324 % 3 > 0))with
 |false=>
  rw[e]at ht
  obtain⟨v,hv,hs⟩:=V8 (Y:=Y) (l:=bO) (x / 972) (by decide) (by decide)
  exact⟨v,OS _ hv,ML ht (yi (n:=n+79) (o:=.OK 140) (i:=.bin .mod (.bin .fdiv (.OK 142) (.lit (V.int 972))) (.lit (V.int 18))) rfl rfl hs)⟩
 |true=>
  rw[e]at ht
  have h0:q.2.isEmpty=false:=by induction z:q.2.isEmpty with
   |false=>rfl
   |true=>rw[z]at e;exact nomatch e
  have hl:(bif q.2.isEmpty then none else xh .mod (.int (x / 5832)) (.int (Int.ofNat q.2.length)))=(bif q.2.isEmpty then none else some (.int (x / 5832 % Int.ofNat q.2.length))):=e8 (β:=Option V) (a:=q) (f:=λq=>bif q.2.isEmpty then none else xh .mod (.int (x / 5832)) (.int (Int.ofNat q.2.length))) (h:=λq=>bif q.2.isEmpty then none else some (.int (x / 5832 % Int.ofNat q.2.length))) (by rfl') hq
  have hk:I5 pg .len [.lst q.2] Y=some (.int (Int.ofNat q.2.length)):=e8 (β:=Option V) (a:=q) (f:=λq=>I5 pg .len [.lst q.2] Y) (h:=λq=>some (.int (Int.ofNat q.2.length))) (by rfl') hq
  have hm:Nat.ble q.2.length 1000=true:=e8 (β:=Bool) (a:=q) (f:=λq=>Nat.ble q.2.length 1000) (h:=λJ=>true) (by rfl') hq
  rw[h0]at hl
  obtain⟨v,hv,hs⟩:=V8 (Y:=Y) (l:=q.2) (x / 5832) (Nat.pos_of_ne_zero λz=>by rw[List.eq_nil_of_length_eq_zero z]at h0;exact nomatch h0) (OO hm)
  exact⟨v,OQ _ hv,Kb ht (yi (n:=n+79) (o:=.OK 143) (i:=.bin .mod (.bin .fdiv (.OK 142) (.lit (V.int 5832))) (.call (.OK 26) [(.OK 143)])) rfl (pM (n:=n+78) (a:=.int (x / 5832)) rfl (Lf (n:=n+77) (b:=.len) (EJ (n:=n+76) (by induction hy2<;>rfl) rfl) rfl hk) hl) hs)⟩
theorem w6 (x:Int):x % 6∈[(0:Int),1,2,3,4,5]:=match dU x (n:=6) (by decide)with
 |⟨j,hj,e⟩=>by
  rw[show x % 6=Int.ofNat j from e]
  exact(List.mem_map.mpr ⟨j,Py hj,rfl⟩:Int.ofNat j∈(List.range 6).map Int.ofNat)
theorem sT (s:St c Y) (hc:c≤50) (hy:Gy y):∃c7 m,St (c+1) c7∧Gf L m∧(b9 pg (n+91)).Y9 (putN (putN (lF L nm y) 141 (.int i)) 142 (.int x)) uB Y=.ok (.next,m) c7:=by
 obtain⟨u,hu,hs⟩:=V8 (Y:=Y) (l:=fQ.map .str) (x / 36+i) (by decide) (by decide)
 obtain⟨nm',hn',rfl⟩:=List.mem_map.mp hu
 obtain⟨q,hq,rfl⟩:=List.mem_map.mp (show nm'∈N9.map Prod.fst from hn')
 obtain⟨pl,hp,ep⟩:=dU (x / 6) (n:=6) (by decide)
 have ep:x / 6 % 6=Int.ofNat pl:=ep
 obtain⟨y1,hy1,e1⟩:=ME (L:=L) (nm:=nm) n hy hs
 rw[ep]at e1
 obtain⟨y2,hy2,e2⟩:=MD (L:=L) (Y:=Y) (i:=i) (x:=x) (pl:=Int.ofNat pl) (w:=x % 6) n hy1 hq
 obtain⟨v,hv,e3⟩:=JW (L:=L) (nm:=q.1) (i:=i) (x:=x) (pl:=Int.ofNat pl) (w:=x % 6) (Y:=Y) (n+9) hq hy2
 have hnv:=JB hq hv
 have pv:=EI hnv
 obtain⟨c7,e4,s'⟩:=KI (n+2) s hc (w6 x) hp (show q.1∈NM from hn') hnv
 have est:store pg (b9 pg (n+90)) (.OK 81) v (lF L q.1 (lG i x (Int.ofNat pl) (x % 6) ((143,.lst q.2)::y2))) Y=.ok (lF L q.1 (lG i x (Int.ofNat pl) (x % 6) [(143,.lst q.2),(81,v)])) Y:=(D4 pv.fz).trans (by induction hy2<;>rfl)
 refine⟨c7,_,s',.mk q.1 pl i x (x % 6) q.2 v hn' hp,(c6 e1).trans ((c6 e2).trans ((c6 (s:=.assign (.OK 81) vX) (m':=lF L q.1 (lG i x (Int.ofNat pl) (x % 6) [(143,.lst q.2),(81,v)])) (m3 e3 est)).trans ?_))⟩
 have e5:(b9 pg (n+88)).ev (lF L q.1 (lG i x (Int.ofNat pl) (x % 6) [(143,.lst q.2),(81,v)])) (.call (.OK 144) [(.OK 41),(.OK 15),(.OK 120),(.OK 21),(.OK 14),(.OK 81)]) Y=.ok (.bool true) c7:=j0 (n:=n+87) (k:=54) (vs:=[.loc 1,.loc 8,.int (x % 6),.int (Int.ofNat pl),.str q.1,v]) rfl (i5 rfl rfl (i5 rfl rfl (i5 rfl rfl (i5 rfl rfl (i5 rfl rfl (i5 (I2 (n:=n+86) rfl pv.rd) pv.fz rfl)))))) e4
 exact(c6 (N5 (n:=n+89) (JC (n:=n+88) e5) rfl)).trans g5
end
noncomputable abbrev S4 (l:List Int):List V:=l.map V.int
section
variable {o:X} {a b:V} {op:ij} {t:Bool} {k:Int}
theorem wU (he:(b9 P n).ev m e Y=.ok b Y) (h:sm op a b Y=some t):Z0 (b9 P n) m a [(op,e)] Y=.ok t Y:=by
 refine v8 he ?_
 show(b8 74 (sm op a b Y) Y).bind _=_
 rw[h];rfl
theorem Fb (ho:(b9 P n).ev m o Y=.ok ov Y) (hi:(b9 P n).ev m e Y=.ok (.int k) Y) (h:fk ov none (some k)=some v):(b9 P (n+1)).ev m (.slice o none (some e)) Y=.ok v Y:=by
 refine v8 ho ?_
 show(lJ (b9 P n) m (some e) Y).bind _=_
 refine v8 (a:=some k) (c7:=Y) (v8 hi rfl) ?_
 show b8 96 (fk ov none (some k)) Y=_
 rw[h];rfl
end
section
variable {l:List Int} (n:Nat)
theorem Aw:U3 (dat 7) (S4 l)=some (l.map D.int):=by
 induction l with
 |nil=>rfl
 |cons a r ih=>
  show(U3 (dat 7) (S4 r)).map (D.int a:: ·)=_
  rw[ih];rfl
theorem zO {d:Nat}:dat 8 (.g6 (S4 l))=some (.seq false (l.map D.int)):=by
 show(U3 (dat 7) (S4 l)).map (D.seq false)=_
 rw[Aw];rfl
theorem BX:∃s,nv (S4 l)=some s:=by
 induction l with
 |nil=>exact⟨0,rfl⟩
 |cons a r ih=>exact ih.elim λs h=>⟨a+s,by
  show(nv (S4 r)).map (a+ ·)=_
  rw[h];rfl⟩
theorem KS {α:Type} {xs:List α} {k:Nat}:Mine.cut none (some (Int.ofNat k)) xs=xs.take k:=by
 show(xs.drop 0).take ((bif Nat.ble k xs.length then k else xs.length) - 0)=_
 rw[List.drop_zero,Nat.sub_zero]
 cases e:Nat.ble k xs.length with
 |true=>rfl
 |false=>exact(List.take_length ..).trans (List.take_of_length_le (Nat.le_of_lt (Nat.lt_of_not_le λh=>Bool.noConfusion (e.symm.trans (Pe h))))).symm
theorem Fq {k:Nat} (h:l.length≤1000):fk (.lst (S4 l)) none (some (Int.ofNat k))=some (.g6 ((S4 l).take k)):=by
 show(gd (Nat.ble (S4 l).length 1000) (V.g6 (Mine.cut none (some (Int.ofNat k)) (S4 l))))=_
 rw[KS,show Nat.ble (S4 l).length 1000=true from by rw[OZ];exact Pe h]
 rfl
noncomputable def MM (l:List Int):List V:=l.zipIdx.map λa=>.tup [.int (Int.ofNat a.2),.int a.1]
theorem DK (h:l.length≤1000):aI .enum 2 [.g6 (S4 l)]=some (MM l):=by
 show(gd (Nat.ble (S4 l).length 1000) (gN (S4 l)))=_
 rw[show Nat.ble (S4 l).length 1000=true from by rw[OZ];exact Pe h]
 show some (gN (S4 l))=_
 unfold gN MM S4
 rw[List.zipIdx_map,List.map_map]
 rfl
theorem Dg {l:List (Int×Nat)}:∀{c:Nat} {Y:Hp} {m:Fr},c+l.length≤50->St c Y->Gf L m->∃c' c7 m',St c' c7∧Gf L m'∧Q4 (b9 pg (n+91)) [141,142] uB (l.map λa=>.tup [.int (Int.ofNat a.2),.int a.1]) m Y=.ok (.next,m') c7:=by
 induction l with
 |nil=>exact λ{c Y m} J s h=>⟨c,Y,m,s,h,rfl⟩
 |cons a r ih=>
  intro c Y m hc s h
  induction h with
  |mk nm pl i x w l v hn hp=>
   obtain⟨Ob,m1,s1,h1,e1⟩:=sT (L:=L) (i:=Int.ofNat a.2) (x:=a.1) n s (OV (Nat.le_add_right _ _) hc) (.full i x (Int.ofNat pl) w l v)
   obtain⟨c',c7,m',s',h',e'⟩:=ih (by rw[Nat.add_assoc,Nat.add_comm 1];exact hc) s1 h1
   exact⟨c',c7,m',s',h',jK e1 e'⟩
theorem Df {a:Int} (hl:(a::l).length≤50) (s:St 0 Y):∃c' c7 m',St c' c7∧Gf L m'∧Q4 (b9 pg (n+91)) [141,142] uB (MM (a::l)) (lF L [101] []) Y=.ok (.next,m') c7:=by
 obtain⟨Ob,m1,s1,h1,e1⟩:=sT (L:=L) (nm:=[101]) (i:=0) (x:=a) n s (Nat.zero_le _) .nil
 obtain⟨c',c7,m',s',h',e'⟩:=Dg (l:=l.zipIdx 1) n (by rw[List.length_zipIdx,Nat.add_comm];exact hl) s1 h1
 exact⟨c',c7,m',s',h',jK e1 e'⟩
theorem KJ:Dir (λJ=>none) (λJ=>none) (λJ=>none) []:=⟨λq h=>absurd rfl h,λq h=>absurd rfl h,λq h=>absurd rfl h,λnm J=>.none,λnm J=>.none,λnm J=>rfl,λnm J h=>nomatch h⟩
theorem Mj:St 0 H0:=.mk _ _ _ _ _ (λJ=>[]) ⟨⟨λd J=>.emp,λd J=>.emp,λd J=>.emp,λd J=>.inl ⟨rfl,rfl⟩⟩,λd J=>KJ,λd J=>Pw _⟩
noncomputable def NN:X:=match I7.body.getD 7 .pass with
 |.F2 _ _ (e::_) _=>e
 |_=>.lit .none
theorem Ke (n:Nat) {xs:List Int} (hx:xs.length≤63):∃a l,(a::l).length≤50∧(b9 pg (n+90)).ev (lF (S4 xs) [101] []) NN Y=.ok (.g6 (S4 (a::l))) Y:=by
 induction xs with
 |nil=>exact⟨100,[7,1000,12],by decide,by rfl'⟩
 |cons a l=>
  refine⟨a,l.take 9,OV (Nat.succ_le_succ (List.length_take_le _ _)) (by decide),?_⟩
  have hc:sm .ne (.lst (S4 (a::l))) (.g6 []) Y=some true:=by
   show(((dat 8 (.lst (S4 (a::l)))).bind λx=>(dat 8 (.g6 [])).map λy=>jN x y).map not)=_
   rw[show dat 8 (.lst (S4 (a::l)))=some (.seq false ((a::l).map D.int))from zO (d:=0)];rfl
  have ht:(b9 pg (n+89)).tr (lF (S4 (a::l)) [101] []) (.cmp (.OK 135) [(.ne,(.list []))]) Y=.ok true Y:=iL (n:=n+88) (v:=.lst (S4 (a::l))) rfl (wU rfl hc)
  refine Kb (n:=n+89) (e:=.slice (.OK 135) none (some (.lit (V.int 10)))) ht (Fb (n:=n+88) (ov:=.lst (S4 (a::l))) (k:=10) rfl rfl ((Fq (k:=10) (OV hx (by decide))).trans ?_))
  show some (V.g6 (V.int a::(S4 l).take 9))=_
  rw[←List.map_take]
  rfl
theorem Dc {xs:List Int} (hx:xs.length≤63):∃c Y m,St c Y∧Gf (S4 xs) m∧g8 pg (b9 pg (n+91)) (lF (S4 xs) [101] []) (I7.body.getD 7 .pass) H0=.ok (.next,m) Y:=by
 obtain⟨a,l,hl,e⟩:=Ke (Y:=H0) (n+1) hx
 obtain⟨c,Y,m,s,h,e2⟩:=Df (L:=S4 xs) n hl Mj
 exact⟨c,Y,m,s,h,Ag (it:=[NN]) (v8 e rfl) (DK (OV hl (by decide))) e2⟩
theorem yk (n:Nat) {xs:List Int} (hx:xs.length≤63):a8 pg (b9 pg (n+91)) [(135,.lst (S4 xs))] (I7.body.take 1) []=.ok (.next,[(135,.lst (S4 xs))]) []:=by
 have e:(b9 pg (n+91)).ev [(135,.lst (S4 xs))] (.slice (.OK 135) none (some (.lit (V.int 63)))) []=.ok (.g6 (S4 xs)) []:=Fb (n:=n+90) (ov:=.lst (S4 xs)) (k:=63) rfl rfl ((Fq (k:=63) (OV hx (by decide))).trans (by rw[List.take_of_length_le (by rw[OZ];exact hx)]))
 exact(c6 (m3 e rfl)).trans g5
end
noncomputable def lZ (L:List V) (nm:Txt) (i x w:Int) (l:List V) (v:V) (pl:Nat) (y:Fr):Fr:=lF L nm (lG i x (Int.ofNat pl) w ([(143,.lst l),(81,v)]++y))
noncomputable def rO (a b c d:Int):V:=.obj 2 [(61,.int a),(62,.int b),(63,.int c),(64,.int d)]
section
variable {p2:Nat} {l:List V} {x s:Int} {S:Txt->Nat} (n:Nat)
theorem HL (W:Wk c p o g k t N) (hp:pl < 6) (hn:nm∈NM):g8 pg (b9 pg (n+91)) (lZ L nm i x w l v pl []) (I7.body.getD 8 .pass) (H p o g k t)=.ok (.next,lZ L nm i x w l v pl []) (H p o g k t):=by
 have e:(b9 pg (n+89)).ev (lZ L nm i x w l v pl []) (.call (.OK 145) [(.OK 41),(.OK 15),(.OK 21),(.OK 14)]) (H p o g k t)=.ok (.bool true) (H p o g k t):=j0 (n:=n+88) (k:=55) (vs:=[.loc 1,.loc 8,.int (Int.ofNat pl),.str nm]) rfl rfl (BS (n+6) W hp hn)
 exact N5 (n:=n+90) (JC (n:=n+89) e) rfl
theorem Kw (hs:nv L=some s) (e:s % 6=Int.ofNat p2):g8 pg (b9 pg (n+91)) (lZ L nm i x w l v pl []) (I7.body.getD 9 .pass) Y=.ok (.next,lZ L nm i x w l v p2 []) Y:=by
 have h1:I5 pg .sum [.lst L] Y=some (.int s):=by
  show(nv L).map V.int=_
  rw[hs];rfl
 have h2:(b9 pg (n+91)).ev (lZ L nm i x w l v pl []) (.bin .mod (.call (.OK 19) [(.OK 135)]) (.lit (V.int 6))) Y=.ok (.int (Int.ofNat p2)) Y:=e▸pM (n:=n+90) (Lf (n:=n+89) (b:=.sum) rfl rfl h1) rfl rfl
 exact m3 h2 rfl
theorem Fg (n:Nat) (hp:pl < 6):G7 (b9 pg (n+80)) (lZ L nm i x w l v pl []) [(.OK 41),(.sub (.sub (.OK 15) (.OK 21)) (.lit (V.str [111,98,106,101,99,116])))] (H p o g k t)=.ok [.loc 1,.int (ob pl)] (H p o g k t)∧∀u,G7 (b9 pg (n+80)) (lZ L nm i x w l v pl [(133,u)]) [(.OK 41),(.sub (.sub (.OK 15) (.OK 21)) (.lit (V.str [111,98,106,101,99,116])))] (H p o g k t)=.ok [.loc 1,.int (ob pl)] (H p o g k t):=
 ⟨M1 (β:=R (List V)) (f:=λpl=>G7 (b9 pg (n+80)) (lZ L nm i x w l v pl []) [(.OK 41),(.sub (.sub (.OK 15) (.OK 21)) (.lit (V.str [111,98,106,101,99,116])))] (H p o g k t)) (h:=λpl=>.ok [.loc 1,.int (ob pl)] (H p o g k t)) (by rfl') hp,
  λu=>M1 (β:=R (List V)) (f:=λpl=>G7 (b9 pg (n+80)) (lZ L nm i x w l v pl [(133,u)]) [(.OK 41),(.sub (.sub (.OK 15) (.OK 21)) (.lit (V.str [111,98,106,101,99,116])))] (H p o g k t)) (h:=λpl=>.ok [.loc 1,.int (ob pl)] (H p o g k t)) (by rfl') hp⟩
theorem DE (hp:pl < 6) (f:Br (H p o g k t) pl Z I):a8 pg (b9 pg (n+91)) (lZ L nm i x w l v pl []) ((I7.body.drop 10).take 2) (H p o g k t)=.ok (.next,lZ L nm i x w l v pl [(133,rO (I qk) (bif decide (I ik=1)then 3 else I vD) (I ql) (I ik))]) (H p o g k t):=by
 have h1:(b9 pg (n+91)).ev (lZ L nm i x w l v pl []) (.call (.OK 146) [(.OK 41),(.sub (.sub (.OK 15) (.OK 21)) (.lit (V.str [111,98,106,101,99,116])))]) (H p o g k t)=.ok (rO (I qk) (bif decide (I ik=1)then 3 else I vD) (I ql) (I ik)) (H p o g k t):=j0 (n:=n+90) (k:=47) rfl (Fg (n+10) hp).1 (yB (n+7) f)
 have h2:=vJ (n+6) f
 generalize (bif decide (I ik=1)then 3 else I vD)=b at h1 h2⊢
 have h3:(b9 pg (n+90)).ev (lZ L nm i x w l v pl [(133,rO (I qk) b (I ql) (I ik))]) (.call (.OK 147) [(.OK 15),(.OK 21)]) (H p o g k t)=.ok (.g6 [.int (I qk),.int b,.int (I ql),.int (I ik)]) (H p o g k t):=j0 (n:=n+89) (k:=56) rfl rfl h2
 have h4:(b9 pg (n+90)).ev (lZ L nm i x w l v pl [(133,rO (I qk) b (I ql) (I ik))]) (.list [(.attr (.OK 133) 61),(.attr (.OK 133) 62),(.attr (.OK 133) 63),(.attr (.OK 133) 64)]) (H p o g k t)=.ok (.g6 [.int (I qk),.int b,.int (I ql),.int (I ik)]) (H p o g k t):=rfl
 exact(c6 (m3 h1 rfl)).trans ((c6 (N5 (n:=n+90) (iL (n:=n+90) h4 (dT h3 rfl)) rfl)).trans g5)
theorem Kx (W:Wk c p o g k t N) (hp:pl < 6) (hS:∀x,Sr (eV o g N x) pl (S x)) {u:V}:a8 pg (b9 pg (n+91)) (lZ L nm i x w l v pl [(133,u)]) (I7.body.drop 12) (H p o g k t)=.ok (.ret (.bool true),lZ L nm i x w l v pl [(133,u)]) (H p o g k t):=by
 obtain⟨D,hD⟩:=xX (S:=S) W
 have h1:(b9 pg (n+90)).ev (lZ L nm i x w l v pl [(133,u)]) (.call (.OK 148) [(.OK 41),(.sub (.sub (.OK 15) (.OK 21)) (.lit (V.str [111,98,106,101,99,116])))]) (H p o g k t)=.ok (.g6 (KN.flatMap (S3 o g N S))) (H p o g k t):=j0 (n:=n+89) (k:=45) rfl ((Fg (n+9) hp).2 u) (IE (n+7) W hp hS)
 have h2:(b9 pg (n+90)).ev (lZ L nm i x w l v pl [(133,u)]) (.call (.OK 149) [(.OK 15),(.OK 21)]) (H p o g k t)=.ok (.g6 (KN.flatMap (S3 o g N S))) (H p o g k t):=j0 (n:=n+89) (k:=57) rfl rfl (Ak (n+7) W hp hS)
 exact s9 (B2 rfl (pB (n:=n+90) h1 (bu h2 hD)) rfl)
theorem Ou (xs:List Int) (hx:xs.length≤63):∃n,n≤290∧((b9 pg n).run 58 [.lst (xs.map .int)] []).c4 (λv J=>v=.bool true) λJ J=>False:=by
 obtain⟨c,Y,m,s,h,e⟩:=Dc 0 hx
 induction s with
 |mk p o g k t N W=>
  induction h with
  |mk nm pl i x w l v hn hp=>
   obtain⟨s,hs⟩:=BX (l:=xs)
   obtain⟨p2,hp2,ep⟩:=dU s (n:=6) (by decide)
   have hS:∃S:Txt->Nat,∀x,Sr (eV o g N x) p2 (S x):=⟨λx=>Classical.choose (yp (eV o g N x) (d:=p2) (Pw _) (Nat.lt_succ_of_lt hp2)),λx=>Classical.choose_spec (yp (eV o g N x) (d:=p2) (Pw _) (Nat.lt_succ_of_lt hp2))⟩
   obtain⟨S,hS⟩:=hS
   obtain⟨Z,I,f⟩:=four W hp2 hS
   have q:(b9 pg 93).run 58 [.lst (S4 xs)] []=.ok (.bool true) (H p o g k t):=t8 (n:=92) (fd:=I7) (m:=[(135,.lst (S4 xs))]) rfl rfl ((z4 1 (yk 0 hx)).trans ((z4 (b:=I7.body.drop 1) 6 (xC 31 (S4 xs))).trans ((c6 (s:=I7.body.getD 7 .pass) e).trans ((c6 (s:=I7.body.getD 8 .pass) (HL 0 W hp hn)).trans ((c6 (s:=I7.body.getD 9 .pass) (Kw 0 hs ep)).trans ((z4 (b:=I7.body.drop 10) 2 (DE 0 hp2 f)).trans (Kx 0 W hp2 hS)))))))
   exact⟨93,by decide,q▸rfl⟩
end
end Mine.Z
end
section
open PySem PySem.W PyProof.Rows PySem.Calls
namespace Mine
noncomputable def pz (a b c d:Nat):Pos:=⟨a,b,c,d⟩
noncomputable def fb:List PySem.Stmt:=jL (pz 8 8 8 17) (pz 8 8 8 26) (pz 8 27 8 31) (pz 8 33 8 36) (pz 8 8 8 37) (pz 8 8 8 37) (pz 9 8 9 12) (pz 9 8 9 16) (pz 9 19 9 22) (pz 9 8 9 22) (kH 6) (kH 151) "why"
noncomputable def hb:List PySem.Stmt:=jD 0 0 0 0 (pz 303 16 303 18) (pz 303 20 303 24) (pz 303 20 303 26) (pz 303 15 303 27) (pz 303 8 303 27) (pz 304 11 304 22) (pz 305 16 305 21) (pz 305 16 305 25) (pz 305 27 305 31) (pz 305 15 305 32) (pz 305 8 305 32) (pz 304 4 305 32) (pz 302 4 305 32) (kH 152) "fault" "why" "InvalidProp"
theorem isList_uniq {h:Heap} {a:Addr} {x y:Array Value} (p:h.IsList a x) (q:h.IsList a y):x=y:=by
 obtain⟨o,e,_,n,d⟩:=p
 obtain⟨o',e',_,n',d'⟩:=q
 rw[e]at e';cases e'
 rw[d]at d';cases d';rfl
set_option Elab.async true in
set_option maxHeartbeats 16000000 in
theorem joined:PySem.Challenge.rw_np0203_01.Holds:=by
 w_on;o_law;k_head;(case hw=>w_witness2)
 have j1:∀P,(joined.heap_1_39 P).lookup 365=some (qy [] 0):=λP=>by rfl'
 have j2:∀P,(joined.heap_1_39 P).lookup 99=some (XD.obj ⟨"InvalidProp","InvalidProp",98,[.ref 38],38,[],[],false,none,none,some (.ref 90),none,some (.str "InvalidProp" 289),some (.str "InvalidProp" 297),some (.bool true)⟩ 99):=λP=>by rfl'
 have j3:∀P,findCls (joined.heap_1_39 P) (.type "Exception") (.type "type") "__init__"=some (.val (.builtin "Exception.__init__")):=λP=>by rfl'
 have j4:∀P,cK (joined.heap_1_39 P) 35=some fb:=λP=>by rfl'
 have j5:∀P,cK (joined.heap_1_39 P) 546=some hb:=λP=>by rfl'
 have j6:∀prog w B,rV (X9 prog w (joined.heap_1_39 w.params) B) 365=true:=λprog w B=>by as_aux_lemma=>rfl'
 have j7:∀prog w B,(vm (joined.heap_1_39 w.params)).map (Ld (X9 prog w (joined.heap_1_39 w.params) B))=gF (Lc (X9 prog w (joined.heap_1_39 w.params) B)) (vm (joined.heap_1_39 w.params)):=λprog w B=>by as_aux_lemma=>rfl'
 have j8:∀P,nsIn (joined.heap_1_39 P) mainGlobals "law"=some (some (.ref 598)):=λP=>by rfl'
 have j9:∀P,codeHdIn (joined.heap_1_39 P) 571 569=true:=λP=>by rfl'
 have ja:∀P,codeHdIn (joined.heap_1_39 P) 578 574=true:=λP=>by rfl'
 have jb:∀P,(joined.heap_1_39 P).lookup 569=none:=λP=>by rfl'
 have jc:∀P,(joined.heap_1_39 P).lookup 574=none:=λP=>by rfl'
 intro w Om c5 mg mb G OH fa o pm cd doc dV kV ho hd hcd hD hmg hg args vals as hpre hlay hrd hwl hlo
 have KX:=km_in_of OH
 have KT:=km_tabs_of OH
 clear OH ho hd hcd hD
 refine Ground.open G ?_
 intro T B D TE TW
 wrow_args hpre hlay hrd hwl hlo
 rename_i xs hs hlay0 hL1 hr1 hl2 as4 as3 l vs as0 hL ra w1 r0 hI hr hc1 hc0
 have efa:fa=598:=by
  have h1:mg "law"=some (.ref fa):=hmg
  rw[mg_of KX T.g (j8 _)]at h1
  cases h1;rfl
 subst efa
 have hKB:(joined.heap_1_39 w.params).In (FA c5.heap):=λa o e=>hideAll_get _ (KX a o e) λq=>(OW q).elim (λz=>d0 (jb w.params) (z▸e)) λq=>d0 (jc w.params) (OX q▸e)
 have hlim:(FA c5.heap).NoLimit:=match T.nolimit with|⟨mc,h1,h2⟩=>⟨mc,kC KT h1,h2⟩
 have hbl:∀Pt,Pt∈([569,574]:List Addr)->(FA c5.heap).BuiltinsAt mg Pt:=λPt hPt=>by
  obtain⟨bm,ob,b1,b2,b3,b4,b5,b6⟩:=T.bmain
  refine⟨bm,ob,b1,b2,λq=>?_,λq=>?_,hideAll_get _ b3 (kD KT b3 λvs q=>nomatch b6.symm.trans q),b4,b5,b6⟩
  ·obtain⟨o,es,ep,e,d,_⟩:=T.g
   rw[←q,b3]at e;cases e;rw[b6]at d;cases d
  ·have:=KT Pt (V6 hPt)
   rw[←q,b3]at this;cases this;cases b6
 have th:=Ji (prog:=PySem.Challenge.rw_np0203_01.row.prog) (w:=w) hKB (kC KT T.g) (kC KT T.b) T.builtins hlim hbl (j1 _) (j6 _ _ _) (j7 _ _ _) ⟨_,j2 _⟩ (j3 _) (j4 _) (λkd h=>.mk _ _ _ _ _ _ _ _ _ _ rfl h) (j5 _) (λkd h1 h2=>.mk _ _ _ _ _ _ _ _ _ _ _ _ _ _ _ _ _ h1 h2)
 obtain⟨n,hn,hrun⟩:=Z.Ou xs (by omega)
 have hlo:c5.heap.get? l=some {cls:=.type "list",data:=.seq vs.toArray}:=by
  have w2:Well w.params c5.heap (Value.ref l) (.list (ofPys (xs.map PyData.int))):=w1
  cases w2 with
  |list e _=>
   have:=isList_uniq hL ⟨_,e,rfl,_,rfl⟩
   rw[this];exact e
 refine wpAny_mono (zw th KX KT (j9 _) (ja _) hg hlo hI hn hrun) (λv s' h=>?_) λ_ _ x=>x
 obtain⟨rfl,hold,hos,hbare⟩:=h
 exact⟨.inl ⟨_,.bool true,[],rfl,λ_=>rfl,ReadsW.bool true,by first|rfl'|simp|decide,λ_=>⟨List.nodup_nil,λ_ hm=>nomatch hm⟩⟩,hold,hos,hbare⟩
end Mine
end
theorem PySem.Challenge.cw_np0203_01_holds : PySem.Challenge.rw_np0203_01.Holds :=
  Mine.joined
